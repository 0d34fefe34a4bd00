import PyProof.Rows.All
import Wide.All
import OpenK.AllK
import Wide.FinOn
import HandS.Base
import HandS.Call
import HandS.List
import HandS.Comp
import HandS.Exc
import HandS.Lambda
import HandS.ExcOwn
import HandS.Iter
import HandS.Ends
import HandS.Defaults
import HandS.Property
import HandS.Deep
import HandS.TupAny
import HandS.Text
import HandS.Strs
import HandS.IsInst
import HandS.RaiseMore
import KE.GoesMore
import HandS.Star
import HandS.Head0
import HandS.Head1
import HandS.Head2
import HandS.HeadEnd
import HandS.HeadHook1
import HandS.HeadHook2
import HandS.Words
import HandS.WordsExc
import HandS.MakeKwOnly
import HandS.DictComp
import HandS.Conv
import HandS.More
import HandS.Style
import HandS.DictEq
import PyProof.AttrMissHeap
import KE.DatumOrd
import HandS.TupLe
import PyProof.SumWalk
import HandS.HeadHook3
import HandS.ListItems
import KE.KDictItemsList
import KE.RegKCallOwn
import HandS.FStr
import HandS.TryOnly
import HandS.NoneIn
import HandS.ExcInit
import HandS.ExcField
import HandS.Codes
import KE.KExcInit
import HandS.HotCalls
import HandS.TryMany
import HandS.SetFor
import HandS.ClsMeth
import HandS.TupMul
import PyProof.EqAt
import PyProof.ReprLen
import HandS.EndTab
import PySem.Challenge.RW_readonce_k05_falls_and_promises_more_or
section
set_option Elab.async false
set_option linter.all false
set_option maxRecDepth 100000
set_option maxHeartbeats 200000
namespace DD
open PySem L2
inductive D where
  | non | bl (b : Bool) | int (i : Int) | str (s : Str)
  | tup (ds : List D) | lst (ds : List D)
  /-- a tuple that need not be a known one -/
  | wtp (ds : List D)
  | dct (ks : List Key) (ds : List D)
  | dtt (ks : List (List Key)) (ds : List D)
  | ins (C : Str) (ns : List Str) (ds : List D)
  /-- the script -/
  | scr (ns : List Int)
inductive O where
  | d (x : D)
  | lst (os : List O)
  | dct (ks : List Key) (os : List O)
  | dtt (ks : List (List Key)) (os : List O)
  | ins (C : Str) (ns : List Str) (os : List O)
def cadr (K : PySem.W.Frag) (x : Str) : Addr := match PySem.W.nsIn K mainGlobals x with
  | some (some (.ref a)) => a
  | _ => 0
/-- the old stands in the new -/
def Ex (H H' : Hp) : Prop := ∀ a o, H a = some o → H' a = some o
theorem Ex.refl (H : Hp) : Ex H H := fun _ _ h => h
theorem Ex.trans {H H1 H2 : Hp} (a : Ex H H1) (b : Ex H1 H2) : Ex H H2 := fun x o h => b x o (a x o h)
theorem Ex.new {H : Hp} {p : Addr} {o : HO} (h : H p = none) : Ex H (upd H p o) := fun a u e => by
  rw [upd_ne (ne_of_none e h)]
  exact e
/-- a code object's table -/
def isTb : HO → Bool
  | .tbl _ => true
  | _ => false
/-- at P stands a code object's table: all its codes bear the name q -/
def TabF (F H : Hp) (P : Addr) (q : Str) : Prop := ∃ ps : Array Value, H P = some (.tbl ps) ∧ TriplesOk ps.toList ∧ ∀ (pos : Pos) (cv : Value), codeAmong pos ps.toList = some cv → ∃ c, cv = .ref c ∧ F c = some (LamX.CodeO c q)
/-- the ground stands in the heap, but for tables -/
structure FA (F H : Hp) : Prop where
  at_ : ∀ a o, F a = some o → isTb o = false → H a = some o
/-- .. where it names a table, the heap has one -/
structure FH (F H : Hp) : Prop extends FA F H where
  tb : ∀ a ps, F a = some (.tbl ps) → ∃ q t, ps = #[.str q t] ∧ TabF F H a q
theorem FA.rd {F H : Hp} {a : Addr} {u : HO} (e : FA F H) (h : Rd F a u) (n : isTb u = false := by rfl) : Rd H a u := by
  rcases h with h | ⟨o, h⟩
  · exact Or.inl (e.at_ a _ h n)
  · exact Or.inr ⟨o, e.at_ a _ h rfl⟩
theorem FA.l {K : PySem.W.Frag} {F H : Hp} {a : Addr} {xs : List V} (e : FA F H) (h : SqL K F a xs) : SqL K H a xs := by
  rcases h with h | h
  · exact Or.inl (e.rd h)
  · exact Or.inr h
theorem FA.of {F F' H : Hp} (f : Ex F F') (e : FA F' H) : FA F H := ⟨fun a o h n => e.at_ a o (f a o h) n⟩
theorem FH.no {F H : Hp} {a : Addr} (e : FH F H) (h : H a = none) : F a = none := by
  cases q : F a with
  | none => rfl
  | some u =>
    cases u with
    | tbl ps =>
      obtain ⟨q', t, _, ps', h', _⟩ := e.tb a ps q
      rw [h] at h'
      cases h'
    | _ =>
      have := e.at_ a _ q rfl
      rw [h] at this
      cases this
/-- the heap changes, but not where the ground is -/
theorem FH.to {F H H' : Hp} (e : FH F H) (k : ∀ a, F a ≠ none → H' a = H a) : FH F H' := by
  refine ⟨⟨fun a o h n => by rw [k a (by rw [h]; simp)]; exact e.at_ a o h n⟩, fun a ps h => ?_⟩
  obtain ⟨q, t, e1, ps', h1, h2, h3⟩ := e.tb a ps h
  exact ⟨q, t, e1, ps', by rw [k a (by rw [h]; simp)]; exact h1, h2, h3⟩
theorem FH.upd {F H : Hp} {a : Addr} {o : HO} (e : FH F H) (h : F a = none) : FH F (L2.upd H a o) := e.to fun b hb => upd_ne fun z => hb (by rw [z, h])
/-- ground and heap grow at one place -/
theorem FH.new {F H : Hp} {p : Addr} {o : HO} (e : FH F H) (hp : H p = none) (n : isTb o = false) : FH (L2.upd F p o) (L2.upd H p o) := by
  have hF := e.no hp
  refine ⟨⟨fun a u h nu => ?_⟩, fun a ps h => ?_⟩
  · by_cases z : a = p
    · subst z
      rw [upd_same] at h ⊢
      exact h
    · rw [upd_ne z] at h ⊢
      exact e.at_ a u h nu
  · by_cases z : a = p
    · subst z
      rw [upd_same] at h
      cases h
      cases n
    · rw [upd_ne z] at h
      obtain ⟨q, t, e1, ps', h1, h2, h3⟩ := e.tb a ps h
      refine ⟨q, t, e1, ps', by rw [upd_ne z]; exact h1, h2, fun pos cv hc => ?_⟩
      obtain ⟨c, e2, e3⟩ := h3 pos cv hc
      exact ⟨c, e2, by rw [upd_ne (ne_of_none e3 hF)]; exact e3⟩
theorem ex_rd {H H' : Hp} {a : Addr} {u : HO} (e : Ex H H') (h : Rd H a u) : Rd H' a u := by
  rcases h with h | ⟨o, h⟩
  · exact Or.inl (e a _ h)
  · exact Or.inr ⟨o, e a _ h⟩
theorem ex_l {K : PySem.W.Frag} {H H' : Hp} {a : Addr} {xs : List V} (e : Ex H H') (h : SqL K H a xs) : SqL K H' a xs := by
  rcases h with h | h
  · exact Or.inl (ex_rd e h)
  · exact Or.inr h
mutual
def Den (K : PySem.W.Frag) (F : Hp) : D → V → Prop
  | .non, v => v = .non
  | .bl b, v => v = .bl b
  | .int i, v => v = .int i
  | .str s, v => v = .str s
  | .tup ds, v => ∃ a o vs, v = .ref a ∧ F a = some (.frz o (.tup vs)) ∧ o.dict = none ∧ Dens K F ds vs
  | .lst ds, v => ∃ a vs, v = .ref a ∧ Rd F a (.lst vs) ∧ Dens K F ds vs
  | .wtp ds, v => ∃ a vs, v = .ref a ∧ F a = some (.tup vs) ∧ Dens K F ds vs
  | .dct ks ds, v => ∃ a o vs, v = .ref a ∧ F a = some (.frz o (.dK (ks.zip vs))) ∧ ks.length = vs.length ∧ Dens K F ds vs
  | .dtt ks ds, v => ∃ a o vs, v = .ref a ∧ F a = some (.frz o (.dT (ks.zip vs))) ∧ ks.length = vs.length ∧ Dens K F ds vs
  | .ins C ns ds, v => ∃ a dx vs, v = .ref a ∧ F a = some (.ins (cadr K C) dx (ns.zip vs)) ∧ ns.length = vs.length ∧ Dens K F ds vs
  | .scr ns, v => ∃ a, v = .ref a ∧ SqL K F a (ns.map V.int)
def Dens (K : PySem.W.Frag) (F : Hp) : List D → List V → Prop
  | [], vs => vs = []
  | d :: ds, vs => ∃ x xs, vs = x :: xs ∧ Den K F d x ∧ Dens K F ds xs
end
mutual
theorem Den.mono {K : PySem.W.Frag} {F F' : Hp} (e : Ex F F') : ∀ (d : D) (v : V), Den K F d v → Den K F' d v
  | .non, v, h => h
  | .bl _, v, h => h
  | .int _, v, h => h
  | .str _, v, h => h
  | .tup ds, v, ⟨a, o, vs, r, s, z, t⟩ => ⟨a, o, vs, r, e _ _ s, z, Dens.mono e ds vs t⟩
  | .lst ds, v, ⟨a, vs, r, s, t⟩ => ⟨a, vs, r, ex_rd e s, Dens.mono e ds vs t⟩
  | .wtp ds, v, ⟨a, vs, r, s, t⟩ => ⟨a, vs, r, e _ _ s, Dens.mono e ds vs t⟩
  | .dct ks ds, v, ⟨a, o, vs, r, s, l, t⟩ => ⟨a, o, vs, r, e _ _ s, l, Dens.mono e ds vs t⟩
  | .dtt ks ds, v, ⟨a, o, vs, r, s, l, t⟩ => ⟨a, o, vs, r, e _ _ s, l, Dens.mono e ds vs t⟩
  | .ins C ns ds, v, ⟨a, dx, vs, r, s, l, t⟩ => ⟨a, dx, vs, r, e _ _ s, l, Dens.mono e ds vs t⟩
  | .scr ns, v, ⟨a, r, s⟩ => ⟨a, r, ex_l e s⟩
theorem Dens.mono {K : PySem.W.Frag} {F F' : Hp} (e : Ex F F') : ∀ (ds : List D) (vs : List V), Dens K F ds vs → Dens K F' ds vs
  | [], vs, h => h
  | d :: ds, vs, ⟨x, xs, r, s, t⟩ => ⟨x, xs, r, Den.mono e d x s, Dens.mono e ds xs t⟩
end
/-- the same, a tuple at the outside need not be a known one -/
def Denw (K : PySem.W.Frag) (F : Hp) (d : D) (v : V) : Prop := Den K F d v ∨ ∃ ds a vs, d = .tup ds ∧ v = .ref a ∧ Rd F a (.tup vs) ∧ Dens K F ds vs
theorem Denw.mono {K : PySem.W.Frag} {F F' : Hp} (e : Ex F F') {d : D} {v : V} (h : Denw K F d v) : Denw K F' d v := by
  rcases h with h | ⟨ds, a, vs, h1, h2, h3, h4⟩
  · exact .inl (Den.mono e d v h)
  · exact .inr ⟨ds, a, vs, h1, h2, ex_rd e h3, Dens.mono e ds vs h4⟩
theorem Denw.tup {K : PySem.W.Frag} {F : Hp} {ds : List D} {v : V} (h : Denw K F (.tup ds) v) : ∃ a vs, v = .ref a ∧ Rd F a (.tup vs) ∧ Dens K F ds vs := by
  rcases h with ⟨a, o, vs, h1, h2, _, h3⟩ | ⟨ds', a, vs, h1, h2, h3, h4⟩
  · exact ⟨a, vs, h1, .inr ⟨o, h2⟩, h3⟩
  · cases h1
    exact ⟨a, vs, h2, h3, h4⟩
/-- weak, or not -/
abbrev Denb (wk : Bool) (K : PySem.W.Frag) (F : Hp) (d : D) (v : V) : Prop := if wk = true then Denw K F d v else Den K F d v
theorem Denb.mono {wk : Bool} {K : PySem.W.Frag} {F F' : Hp} (e : Ex F F') {d : D} {v : V} (h : Denb wk K F d v) : Denb wk K F' d v := by
  cases wk with
  | true => exact Denw.mono e h
  | false => exact Den.mono e d v h
theorem Den.tup {K : PySem.W.Frag} {F : Hp} {ds : List D} {v : V} (h : Den K F (.tup ds) v) : ∃ a vs, v = .ref a ∧ Rd F a (.tup vs) ∧ Dens K F ds vs := Denw.tup (.inl h)
section
variable {K : PySem.W.Frag} {F : Hp}
theorem dens_nil : Dens K F [] [] := rfl
theorem dens_cons {d : D} {ds : List D} {x : V} {xs : List V} (h : Den K F d x) (t : Dens K F ds xs) : Dens K F (d :: ds) (x :: xs) := ⟨x, xs, rfl, h, t⟩
theorem Dens.length : ∀ {ds : List D} {vs : List V}, Dens K F ds vs → ds.length = vs.length
  | [], vs, h => by
    have h' : vs = [] := h
    subst h'
    rfl
  | d :: ds, vs, ⟨x, xs, r, s, t⟩ => by
    subst r
    rw [List.length_cons, List.length_cons, Dens.length t]
theorem Dens.get : ∀ {ds : List D} {vs : List V} {i : Nat} {d : D}, Dens K F ds vs → ds[i]? = some d → ∃ v, vs[i]? = some v ∧ Den K F d v
  | [], vs, i, d, h, e => by simp at e
  | d :: ds, vs, 0, d', ⟨x, xs, r, s, t⟩, e => by
    have e' : d = d' := by simpa using e
    subst e' r
    exact ⟨x, rfl, s⟩
  | d :: ds, vs, i + 1, d', ⟨x, xs, r, s, t⟩, e => by
    subst r
    obtain ⟨v, h1, h2⟩ := Dens.get (i := i) (d := d') t (by simpa using e)
    exact ⟨v, by simpa using h1, h2⟩
theorem Dens.append : ∀ {ds es : List D} {vs ws : List V}, Dens K F ds vs → Dens K F es ws → Dens K F (ds ++ es) (vs ++ ws)
  | [], es, vs, ws, h, k => by
    have h' : vs = [] := h
    subst h'
    exact k
  | d :: ds, es, vs, ws, ⟨x, xs, r, s, t⟩, k => by
    subst r
    exact ⟨x, xs ++ ws, rfl, s, Dens.append t k⟩
theorem Dens.take : ∀ {ds : List D} {vs : List V} (n : Nat), Dens K F ds vs → Dens K F (ds.take n) (vs.take n)
  | _, _, 0, _ => rfl
  | [], vs, n + 1, h => by
    have h' : vs = [] := h
    subst h'
    exact rfl
  | d :: ds, vs, n + 1, ⟨x, xs, r, s, t⟩ => by
    subst r
    exact ⟨x, _, rfl, s, Dens.take n t⟩
theorem Dens.drop : ∀ {ds : List D} {vs : List V} (n : Nat), Dens K F ds vs → Dens K F (ds.drop n) (vs.drop n)
  | _, _, 0, h => h
  | [], vs, n + 1, h => by
    have h' : vs = [] := h
    subst h'
    exact rfl
  | d :: ds, vs, n + 1, ⟨x, xs, r, s, t⟩ => by
    subst r
    exact Dens.drop n t
theorem Dens.reverse : ∀ {ds : List D} {vs : List V}, Dens K F ds vs → Dens K F ds.reverse vs.reverse
  | [], vs, h => by
    have h' : vs = [] := h
    subst h'
    exact rfl
  | d :: ds, vs, ⟨x, xs, r, s, t⟩ => by
    subst r
    rw [List.reverse_cons, List.reverse_cons]
    exact Dens.append (Dens.reverse t) (dens_cons s dens_nil)
theorem Dens.set : ∀ {ds : List D} {vs : List V} (i : Nat) {d : D} {v : V}, Dens K F ds vs → Den K F d v → Dens K F (ds.set i d) (vs.set i v)
  | [], vs, i, d, v, h, k => by
    have h' : vs = [] := h
    subst h'
    exact rfl
  | _ :: ds, vs, 0, d, v, ⟨x, xs, r, s, t⟩, k => by
    subst r
    exact ⟨v, xs, rfl, k, t⟩
  | _ :: ds, vs, i + 1, d, v, ⟨x, xs, r, s, t⟩, k => by
    subst r
    exact ⟨x, _, rfl, s, Dens.set i t k⟩
end
/-- the defs of a law that may make lambdas; the defs that get them -/
def makers : List Str := ["_law_right", "_law_pair_right", "_law_tells_right", "_law_asked_right", "sets_of", "_law_refused_right", "_law_acted", "_law_twice_right", "_law_one_call", "_law_calls_right", "_law_by_single", "_law_call_right"]
def lamNames : List Str := ["_law_heard", "_law_caught", "_law_ended", "sets_of"]
def lamK (K : PySem.W.Frag) : Bool := lamNames.any fun x => match PySem.W.nsIn K mainGlobals x with
  | some (some _) => true
  | _ => false
/-- the code object of the def that a name stands for, and its table -/
def codA (K : PySem.W.Frag) (x : Str) : Option Addr := match K.lookup (cadr K x) with
  | some ⟨_, _, .func fd, _⟩ => (match fd.code with
    | Value.ref c => some c
    | _ => none)
  | _ => none
def tabA (K : PySem.W.Frag) (x : Str) : Option Addr := (codA K x).bind fun c => match K.lookup c with
  | some ⟨_, _, .fields vs, _⟩ => (match vs[11]? with
    | some (Value.ref P) => some P
    | _ => none)
  | _ => none
def lamQ (x : Str) : Str := x ++ ".<locals>." ++ "<lambda>"
/-- where lambdas are made, the ground names the tables -/
def MkF (K : PySem.W.Frag) (F : Hp) : Prop := lamK K = true → ∀ x ∈ makers, ∀ P, tabA K x = some P → ∃ t, F P = some (.tbl #[.str (lamQ x) t])
theorem MkF.mono {K : PySem.W.Frag} {F F' : Hp} (m : MkF K F) (e : Ex F F') : MkF K F' := fun h x hx P hP => by
  obtain ⟨t, q⟩ := m h x hx P hP
  exact ⟨t, e _ _ q⟩
theorem MkF.no {K : PySem.W.Frag} {F : Hp} (h : lamK K = false) : MkF K F := fun q => by rw [h] at q; cases q
structure FHK (K : PySem.W.Frag) (F H : Hp) : Prop extends FH F H where
  mks : MkF K F
mutual
def OwnAt (K : PySem.W.Frag) (F H : Hp) : O → V → List Addr → Prop
  | .d x, v, fp => Den K F x v ∧ fp = []
  | .lst os, v, fp => ∃ a vs fp', v = .ref a ∧ fp = a :: fp' ∧ H a = some (.lst vs) ∧ OwnsAt K F H os vs fp'
  | .dct ks os, v, fp => ∃ a vs fp', v = .ref a ∧ fp = a :: fp' ∧ H a = some (.dK (ks.zip vs)) ∧ ks.length = vs.length ∧ OwnsAt K F H os vs fp'
  | .dtt ks os, v, fp => ∃ a vs fp', v = .ref a ∧ fp = a :: fp' ∧ H a = some (.dT (ks.zip vs)) ∧ ks.length = vs.length ∧ OwnsAt K F H os vs fp'
  | .ins C ns os, v, fp => ∃ a dx vs fp', v = .ref a ∧ fp = a :: fp' ∧ H a = some (.ins (cadr K C) dx (ns.zip vs)) ∧ ns.length = vs.length ∧ OwnsAt K F H os vs fp'
def OwnsAt (K : PySem.W.Frag) (F H : Hp) : List O → List V → List Addr → Prop
  | [], vs, fp => vs = [] ∧ fp = []
  | o :: os, vs, fp => ∃ x xs f1 f2, vs = x :: xs ∧ fp = f1 ++ f2 ∧ OwnAt K F H o x f1 ∧ OwnsAt K F H os xs f2
end
mutual
theorem OwnAt.mono {K : PySem.W.Frag} {F F' H H' : Hp} (e : Ex F F') : ∀ (o : O) (v : V) (fp : List Addr), (∀ a ∈ fp, H' a = H a) → OwnAt K F H o v fp → OwnAt K F' H' o v fp
  | .d x, v, fp, _, ⟨h, r⟩ => ⟨Den.mono e x v h, r⟩
  | .lst os, v, fp, k, ⟨a, vs, fp', r, s, h, t⟩ => ⟨a, vs, fp', r, s, (k a (by rw [s]; exact List.mem_cons_self)).trans h, OwnsAt.mono e os vs fp' (fun b hb => k b (by rw [s]; exact List.mem_cons_of_mem _ hb)) t⟩
  | .dct ks os, v, fp, k, ⟨a, vs, fp', r, s, h, l, t⟩ => ⟨a, vs, fp', r, s, (k a (by rw [s]; exact List.mem_cons_self)).trans h, l, OwnsAt.mono e os vs fp' (fun b hb => k b (by rw [s]; exact List.mem_cons_of_mem _ hb)) t⟩
  | .dtt ks os, v, fp, k, ⟨a, vs, fp', r, s, h, l, t⟩ => ⟨a, vs, fp', r, s, (k a (by rw [s]; exact List.mem_cons_self)).trans h, l, OwnsAt.mono e os vs fp' (fun b hb => k b (by rw [s]; exact List.mem_cons_of_mem _ hb)) t⟩
  | .ins C ns os, v, fp, k, ⟨a, dx, vs, fp', r, s, h, l, t⟩ => ⟨a, dx, vs, fp', r, s, (k a (by rw [s]; exact List.mem_cons_self)).trans h, l, OwnsAt.mono e os vs fp' (fun b hb => k b (by rw [s]; exact List.mem_cons_of_mem _ hb)) t⟩
theorem OwnsAt.mono {K : PySem.W.Frag} {F F' H H' : Hp} (e : Ex F F') : ∀ (os : List O) (vs : List V) (fp : List Addr), (∀ a ∈ fp, H' a = H a) → OwnsAt K F H os vs fp → OwnsAt K F' H' os vs fp
  | [], vs, fp, _, h => h
  | o :: os, vs, fp, k, ⟨x, xs, f1, f2, r, s, h, t⟩ => ⟨x, xs, f1, f2, r, s, OwnAt.mono e o x f1 (fun b hb => k b (by rw [s]; exact List.mem_append_left _ hb)) h, OwnsAt.mono e os xs f2 (fun b hb => k b (by rw [s]; exact List.mem_append_right _ hb)) t⟩
end
def isTp : HO → Bool
  | .tup _ => true
  | .tbl _ => true
  | .ext _ => true
  | _ => false
theorem tb_tp {o : HO} (h : isTp o = false) : isTb o = false := by
  cases o <;> first | rfl | cases h
/-- at a stands o, which is no tuple, no table -/
structure Hs (H : Hp) (a : Addr) (o : HO) : Prop where
  e : H a = some o
  n : isTp o = false
mutual
theorem OwnAt.dom {K : PySem.W.Frag} {F H : Hp} : ∀ (o : O) (v : V) (fp : List Addr), OwnAt K F H o v fp → ∀ a ∈ fp, ∃ u, Hs H a u
  | .d x, v, fp, ⟨h, r⟩, a, ha => by rw [r] at ha; cases ha
  | .lst os, v, fp, ⟨a, vs, fp', r, s, h, t⟩, b, hb => by
    rw [s] at hb
    rcases List.mem_cons.mp hb with e | hb
    · exact ⟨_, e ▸ h, rfl⟩
    · exact OwnsAt.dom os vs fp' t b hb
  | .dct ks os, v, fp, ⟨a, vs, fp', r, s, h, l, t⟩, b, hb => by
    rw [s] at hb
    rcases List.mem_cons.mp hb with e | hb
    · exact ⟨_, e ▸ h, rfl⟩
    · exact OwnsAt.dom os vs fp' t b hb
  | .dtt ks os, v, fp, ⟨a, vs, fp', r, s, h, l, t⟩, b, hb => by
    rw [s] at hb
    rcases List.mem_cons.mp hb with e | hb
    · exact ⟨_, e ▸ h, rfl⟩
    · exact OwnsAt.dom os vs fp' t b hb
  | .ins C ns os, v, fp, ⟨a, dx, vs, fp', r, s, h, l, t⟩, b, hb => by
    rw [s] at hb
    rcases List.mem_cons.mp hb with e | hb
    · exact ⟨_, e ▸ h, rfl⟩
    · exact OwnsAt.dom os vs fp' t b hb
theorem OwnsAt.dom {K : PySem.W.Frag} {F H : Hp} : ∀ (os : List O) (vs : List V) (fp : List Addr), OwnsAt K F H os vs fp → ∀ a ∈ fp, ∃ u, Hs H a u
  | [], vs, fp, ⟨_, h⟩, a, ha => by rw [h] at ha; cases ha
  | o :: os, vs, fp, ⟨x, xs, f1, f2, r, s, h, t⟩, a, ha => by
    rw [s] at ha
    rcases List.mem_append.mp ha with ha | ha
    · exact OwnAt.dom o x f1 h a ha
    · exact OwnsAt.dom os xs f2 t a ha
end
abbrev DEnv := List (Option O)
/-- the frame's values -/
def EnvAt (K : PySem.W.Frag) (F H : Hp) : L2.St → DEnv → List Addr → Prop
  | [], [], fp => fp = [] ∧ MkF K F
  | _ :: σ, none :: env, fp => EnvAt K F H σ env fp
  | v :: σ, some o :: env, fp => ∃ x f1 f2, v = some x ∧ fp = f1 ++ f2 ∧ OwnAt K F H o x f1 ∧ EnvAt K F H σ env f2
  | [], _ :: _, _ => False
  | _ :: _, [], _ => False
section
variable {K : PySem.W.Frag} {F F' H H' : Hp}
theorem EnvAt.length : ∀ {σ : L2.St} {env : DEnv} {fp : List Addr}, EnvAt K F H σ env fp → σ.length = env.length
  | [], [], _, _ => rfl
  | _ :: σ, none :: env, fp, h => by rw [List.length_cons, List.length_cons, EnvAt.length (σ := σ) (env := env) (fp := fp) h]
  | v :: σ, some o :: env, fp, ⟨x, f1, f2, r, s, h, t⟩ => by rw [List.length_cons, List.length_cons, EnvAt.length t]
  | [], _ :: _, _, h => h.elim
  | _ :: _, [], _, h => h.elim
theorem EnvAt.mono (e : Ex F F') : ∀ {σ : L2.St} {env : DEnv} {fp : List Addr}, (∀ a ∈ fp, H' a = H a) → EnvAt K F H σ env fp → EnvAt K F' H' σ env fp
  | [], [], _, _, h => ⟨h.1, h.2.mono e⟩
  | _ :: σ, none :: env, fp, k, h => EnvAt.mono e (σ := σ) (env := env) (fp := fp) k h
  | v :: σ, some o :: env, fp, k, ⟨x, f1, f2, r, s, h, t⟩ => ⟨x, f1, f2, r, s, OwnAt.mono e o x f1 (fun b hb => k b (by rw [s]; exact List.mem_append_left _ hb)) h, EnvAt.mono e (fun b hb => k b (by rw [s]; exact List.mem_append_right _ hb)) t⟩
  | [], _ :: _, _, _, h => h.elim
  | _ :: _, [], _, _, h => h.elim
theorem EnvAt.dom : ∀ {σ : L2.St} {env : DEnv} {fp : List Addr}, EnvAt K F H σ env fp → ∀ a ∈ fp, ∃ u, Hs H a u
  | [], [], fp, h, a, ha => by
    have h' : fp = [] := h.1
    rw [h'] at ha
    cases ha
  | _ :: σ, none :: env, fp, h, a, ha => EnvAt.dom (σ := σ) (env := env) (fp := fp) h a ha
  | v :: σ, some o :: env, fp, ⟨x, f1, f2, r, s, h, t⟩, a, ha => by
    rw [s] at ha
    rcases List.mem_append.mp ha with ha | ha
    · exact OwnAt.dom o x f1 h a ha
    · exact EnvAt.dom t a ha
  | [], _ :: _, _, h, _, _ => h.elim
  | _ :: _, [], _, h, _, _ => h.elim
/-- one slot, the others aside -/
theorem EnvAt.at_ : ∀ {σ : L2.St} {env : DEnv} {fp : List Addr} (i : Nat), EnvAt K F H σ env fp → i < env.length →
    ∃ f0 fr, fp.Perm (f0 ++ fr) ∧ (∀ o, env[i]? = some (some o) → ∃ v, σ[i]? = some (some v) ∧ OwnAt K F H o v f0) ∧
      (∀ (F' H' : Hp), Ex F F' → (∀ a ∈ fr, H' a = H a) → (∀ x, EnvAt K F' H' (σ.set i x) (env.set i none) fr) ∧
        ∀ o' v' f', OwnAt K F' H' o' v' f' → ∃ fp', EnvAt K F' H' (σ.set i (some v')) (env.set i (some o')) fp' ∧ fp'.Perm (f' ++ fr))
  | [], [], _, i, h, hi => absurd hi (Nat.not_lt_zero _)
  | v :: σ, none :: env, fp, 0, h, hi => ⟨[], fp, List.Perm.refl _, fun o e => by simp at e, fun F' H' e k => ⟨fun x => EnvAt.mono e (σ := σ) (env := env) k h, fun o' v' f' ho => ⟨f' ++ fp, ⟨v', f', fp, rfl, rfl, ho, EnvAt.mono e (σ := σ) (env := env) k h⟩, List.Perm.refl _⟩⟩⟩
  | v :: σ, some o :: env, fp, 0, ⟨x, f1, f2, r, s, h, t⟩, hi => ⟨f1, f2, by rw [s], fun o' e => by
      have e' : o = o' := by simpa using e
      subst e' r
      exact ⟨x, rfl, h⟩, fun F' H' e k => ⟨fun x => EnvAt.mono e (σ := σ) (env := env) k t, fun o' v' f' ho => ⟨f' ++ f2, ⟨v', f', f2, rfl, rfl, ho, EnvAt.mono e (σ := σ) (env := env) k t⟩, List.Perm.refl _⟩⟩⟩
  | v :: σ, none :: env, fp, i + 1, h, hi => by
    obtain ⟨f0, fr, p, g, q⟩ := EnvAt.at_ (σ := σ) (env := env) (fp := fp) i h (by simpa using hi)
    exact ⟨f0, fr, p, fun o e => by simpa using g o (by simpa using e), fun F' H' e k => ⟨fun x => (q F' H' e k).1 x, fun o' v' f' ho => (q F' H' e k).2 o' v' f' ho⟩⟩
  | v :: σ, some o :: env, fp, i + 1, ⟨x, f1, f2, r, s, h, t⟩, hi => by
    obtain ⟨f0, fr, p, g, q⟩ := EnvAt.at_ (σ := σ) (env := env) (fp := f2) i t (by simpa using hi)
    refine ⟨f0, f1 ++ fr, ?_, fun o e => by simpa using g o (by simpa using e), fun F' H' e k => ⟨fun y => ?_, fun o' v' f' ho => ?_⟩⟩
    · rw [s]
      refine (List.Perm.append_left f1 p).trans ?_
      rw [← List.append_assoc, ← List.append_assoc]
      exact List.Perm.append_right _ List.perm_append_comm
    · exact ⟨x, f1, fr, r, rfl, OwnAt.mono e o x f1 (fun b hb => k b (List.mem_append_left _ hb)) h, (q F' H' e (fun b hb => k b (List.mem_append_right _ hb))).1 y⟩
    · obtain ⟨fp', a, b⟩ := (q F' H' e (fun b hb => k b (List.mem_append_right _ hb))).2 o' v' f' ho
      refine ⟨f1 ++ fp', ⟨x, f1, fp', r, rfl, OwnAt.mono e o x f1 (fun b hb => k b (List.mem_append_left _ hb)) h, a⟩, ?_⟩
      refine (List.Perm.append_left f1 b).trans ?_
      rw [← List.append_assoc, ← List.append_assoc]
      exact List.Perm.append_right _ List.perm_append_comm
  | [], _ :: _, _, _, h, _ => h.elim
  | _ :: _, [], _, _, h, _ => h.elim
end
/-- what holds between the frame's plain data and the heap: F frozen, fp owned -/
structure Rel (K : PySem.W.Frag) (F H : Hp) (σ : L2.St) (env : DEnv) (fp : List Addr) : Prop where
  ex : FH F H
  at_ : EnvAt K F H σ env fp
  nd : fp.Nodup
  out : ∀ a ∈ fp, F a = none
/-- what stood is kept; a table may have grown -/
def Kp (o : HO) (r : Option HO) : Prop := r = some o ∨ (isTb o = true ∧ ∃ ps, r = some (.tbl ps))
theorem Kp.of {o : HO} {r : Option HO} (h : Kp o r) (n : isTb o = false := by rfl) : r = some o := by
  rcases h with h | ⟨h, _⟩
  · exact h
  · rw [n] at h; cases h
theorem Kp.is {o : HO} {r : Option HO} (h : Kp o r) : ∃ u, r = some u := by
  rcases h with h | ⟨_, ps, h⟩
  · exact ⟨_, h⟩
  · exact ⟨_, h⟩
theorem Kp.trans {o : HO} {r r2 : Option HO} (h : Kp o r) (k : ∀ u, r = some u → Kp u r2) : Kp o r2 := by
  rcases h with h | ⟨t, ps, h⟩
  · exact k _ h
  · rcases k _ h with h2 | ⟨_, h2⟩
    · exact .inr ⟨t, ps, h2⟩
    · exact .inr ⟨t, h2⟩
/-- from one state to a later one -/
structure Po (F H : Hp) (fp : List Addr) (F' H' : Hp) (fp' : List Addr) : Prop where
  f : Ex F F'
  keep : ∀ a o, H a = some o → a ∉ fp → Kp o (H' a)
  fresh : ∀ a ∈ fp', a ∈ fp ∨ H a = none
  out : ∀ a o, F a = none → Hs H a o → a ∉ fp → F' a = none
theorem Po.refl {F H : Hp} {fp : List Addr} : Po F H fp F H fp := ⟨Ex.refl F, fun _ _ h _ => .inl h, fun _ h => .inl h, fun _ _ h _ _ => h⟩
theorem Po.trans {F H F1 H1 F2 H2 : Hp} {fp fp1 fp2 : List Addr} (a : Po F H fp F1 H1 fp1) (b : Po F1 H1 fp1 F2 H2 fp2) : Po F H fp F2 H2 fp2 := by
  have nf : ∀ x o, H x = some o → x ∉ fp → x ∉ fp1 := fun x o h n h1 => by
    rcases a.fresh x h1 with z | z
    · exact n z
    · rw [z] at h; cases h
  refine ⟨a.f.trans b.f, fun x o h n => (a.keep x o h n).trans fun u hu => b.keep x u hu (nf x o h n), fun x hx => ?_, fun x o h1 h2 n => b.out x o (a.out x o h1 h2 n) ⟨(a.keep x o h2.e n).of (tb_tp h2.n), h2.n⟩ (nf x o h2.e n)⟩
  rcases b.fresh x hx with z | z
  · exact a.fresh x z
  · by_cases hm : x ∈ fp
    · exact .inl hm
    · cases q : H x with
      | none => exact .inr rfl
      | some o =>
        obtain ⟨u, hu⟩ := (a.keep x o q hm).is
        rw [hu] at z
        cases z
/-- growth alone: nothing is written -/
structure Gr (F H F' H' : Hp) : Prop where
  f : Ex F F'
  h : ∀ a o, H a = some o → Kp o (H' a)
  fh : FH F' H'
  out : ∀ a o, F a = none → Hs H a o → F' a = none
theorem Gr.refl {F H : Hp} (e : FH F H) : Gr F H F H := ⟨Ex.refl F, fun _ _ h => .inl h, e, fun _ _ h _ => h⟩
theorem Gr.trans {F H F1 H1 F2 H2 : Hp} (a : Gr F H F1 H1) (b : Gr F1 H1 F2 H2) : Gr F H F2 H2 :=
  ⟨a.f.trans b.f, fun x o h => (a.h x o h).trans fun u hu => b.h x u hu, b.fh, fun x o h1 h2 => b.out x o (a.out x o h1 h2) ⟨(a.h x o h2.e).of (tb_tp h2.n), h2.n⟩⟩
/-- a new object, frozen at once -/
theorem Gr.new {F H : Hp} {p : Addr} {o : HO} (e : FH F H) (hp : H p = none) (n : isTb o = false := by rfl) : Gr F H (upd F p o) (upd H p o) := by
  refine ⟨Ex.new (e.no hp), fun a u h => .inl (Ex.new hp a u h), e.new hp n, fun a u h1 h2 => ?_⟩
  rw [upd_ne (ne_of_none h2.e hp)]
  exact h1
theorem Gr.po {F H F' H' : Hp} {fp : List Addr} (g : Gr F H F' H') : Po F H fp F' H' fp := ⟨g.f, fun a o h _ => g.h a o h, fun a h => .inl h, fun a o h1 h2 _ => g.out a o h1 h2⟩
section
variable {K : PySem.W.Frag} {F H F' H' : Hp} {σ : L2.St} {env : DEnv} {fp : List Addr}
theorem Rel.grow (R : Rel K F H σ env fp) (g : Gr F H F' H') : Rel K F' H' σ env fp := by
  refine ⟨g.fh, R.at_.mono g.f (fun a ha => ?_), R.nd, fun a ha => ?_⟩
  · obtain ⟨u, hu⟩ := R.at_.dom a ha
    rw [hu.e, (g.h a u hu.e).of (tb_tp hu.n)]
  · obtain ⟨u, hu⟩ := R.at_.dom a ha
    exact g.out a u (R.out a ha) hu
end
end DD
namespace DD
open PySem PySem.Spec PyProof.Rows L2
structure Exn where
  cls : Str
  ns : List Str
  ds : List D
/-- the exception at hand: its class, its dict -/
def ExAt (K : PySem.W.Frag) (F : Hp) (x : Exn) (c : Value) (dd : Option Addr) : Prop :=
  c = .ref (cadr K x.cls) ∧ ((x.ns = [] ∧ x.ds = [] ∧ dd = none) ∨ ∃ d vs, dd = some d ∧ F d = some (.xd (x.ns.zip vs)) ∧ x.ns.length = vs.length ∧ Dens K F x.ds vs)
theorem ExAt.mono {K : PySem.W.Frag} {F F' : Hp} {x : Exn} {c : Value} {dd : Option Addr} (e : Ex F F') (h : ExAt K F x c dd) : ExAt K F' x c dd := by
  obtain ⟨h1, h2⟩ := h
  refine ⟨h1, ?_⟩
  rcases h2 with h2 | ⟨d, vs, a, b, c, d'⟩
  · exact .inl h2
  · exact .inr ⟨d, vs, a, e _ _ b, c, Dens.mono e _ _ d'⟩
inductive Rs (α : Type) where
  | ok (a : α) (env : DEnv) | exc (x : Exn) (env : DEnv) | fail
def Rs.bind {α β : Type} (r : Rs α) (k : α → DEnv → Rs β) : Rs β := match r with
  | .ok a e => k a e
  | .exc x e => .exc x e
  | .fail => .fail
@[simp] theorem Rs.bind_ok {α β : Type} {a : α} {e : DEnv} {k : α → DEnv → Rs β} : (Rs.ok a e).bind k = k a e := id rfl
@[simp] theorem Rs.bind_exc {α β : Type} {x : Exn} {e : DEnv} {k : α → DEnv → Rs β} : (Rs.exc x e).bind k = Rs.exc x e := id rfl
@[simp] theorem Rs.bind_fail {α β : Type} {k : α → DEnv → Rs β} : (Rs.fail : Rs α).bind k = Rs.fail := id rfl
section
variable {α β γ δ : Type}
def Out (K : PySem.W.Frag) (W : WX) (rel : Hp → α → β → Prop) (F H : Hp) (σ : L2.St) (fp : List Addr) (Q : β → Hp → Prop) : Rs α → Prop
  | .ok a env => ∀ F' H' fp' b, Po F H fp F' H' fp' → Rel K F' H' σ env fp' → rel F' a b → Q b H'
  | .exc x env => ∀ F' H' fp' c dd, Po F H fp F' H' fp' → Rel K F' H' σ env fp' → ExAt K F' x c dd → W c dd σ H'
  | .fail => False
theorem Out.step {K : PySem.W.Frag} {W : WX} {rel : Hp → α → β → Prop} {F H F1 H1 : Hp} {σ : L2.St} {fp fp1 : List Addr} {Q : β → Hp → Prop} {r : Rs α} (P : Po F H fp F1 H1 fp1) (h : Out K W rel F H σ fp Q r) : Out K W rel F1 H1 σ fp1 Q r := by
  cases r with
  | ok a env => exact fun F' H' fp' b P' => h F' H' fp' b (P.trans P')
  | exc x env => exact fun F' H' fp' c dd P' => h F' H' fp' c dd (P.trans P')
  | fail => exact h
/-- t does what m says -/
def Sn (K : PySem.W.Frag) (W : WX) (rel : Hp → α → β → Prop) (F0 : Hp) (t : L2.St → Hp → (β → Hp → Prop) → Prop) (m : DEnv → Rs α) : Prop :=
  ∀ (F H : Hp) (σ : L2.St) (env : DEnv) (fp : List Addr) (Q : β → Hp → Prop), Ex F0 F → Rel K F H σ env fp → Out K W rel F H σ fp Q (m env) → t σ H Q
theorem Sn.go {K : PySem.W.Frag} {W : WX} {rel1 : Hp → α → β → Prop} {rel2 : Hp → γ → δ → Prop} {F0 : Hp} {t1 : L2.St → Hp → (β → Hp → Prop) → Prop} {m1 : DEnv → Rs α} (h1 : Sn K W rel1 F0 t1 m1)
    {F H : Hp} {σ : L2.St} {env : DEnv} {fp : List Addr} {mk : α → DEnv → Rs γ} {Q : β → Hp → Prop} {Q2 : δ → Hp → Prop} (e : Ex F0 F) (R : Rel K F H σ env fp) (h : Out K W rel2 F H σ fp Q2 ((m1 env).bind mk))
    (hk : ∀ F' H' fp' env' a b, Po F H fp F' H' fp' → Rel K F' H' σ env' fp' → rel1 F' a b → Out K W rel2 F' H' σ fp' Q2 (mk a env') → Q b H') : t1 σ H Q := by
  refine h1 F H σ env fp _ e R ?_
  generalize m1 env = r at h
  cases r with
  | ok a env1 => exact fun F' H' fp' b P R' r' => hk F' H' fp' env1 a b P R' r' (Out.step P h)
  | exc x env1 => exact h
  | fail => exact h
end
abbrev emp : Hp := fun _ => none
theorem ex_emp {F : Hp} : Ex emp F := fun _ _ h => nomatch h
abbrev MD := DEnv → Rs D
abbrev MB := DEnv → Rs Bool
abbrev MA := DEnv → Rs (List D)
def mVar (i : Nat) : MD := fun env => match env[i]? with
  | some (some (.d x)) => .ok x env
  | _ => .fail
def mC (d : D) : MD := fun env => .ok d env
def ofO {α : Type} (o : Option α) (env : DEnv) : Rs α := match o with
  | some c => .ok c env
  | none => .fail
def mOp (f : D → D → Option D) (a b : MD) : MD := fun env => (a env).bind fun x e1 => (b e1).bind fun y e2 => ofO (f x y) e2
def mUn (f : D → Option D) (a : MD) : MD := fun env => (a env).bind fun x e1 => ofO (f x) e1
def mTest (a : MD) : MB := fun env => (a env).bind fun x e1 => match x with
  | .bl b => .ok b e1
  | _ => .fail
def mAnd (a b : MB) : MB := fun env => (a env).bind fun x e1 => if x = true then b e1 else .ok false e1
def mOr (a b : MB) : MB := fun env => (a env).bind fun x e1 => if x = true then .ok true e1 else b e1
def mNot (a : MB) : MB := fun env => (a env).bind fun x e1 => .ok (!x) e1
def mIf {α : Type} (c : MB) (a b : DEnv → Rs α) : DEnv → Rs α := fun env => (c env).bind fun x e1 => if x = true then a e1 else b e1
def mAndV (a b : MD) : MD := fun env => (a env).bind fun x e1 => match x with
  | .bl true => b e1
  | .bl false => .ok (.bl false) e1
  | _ => .fail
def mOrV (a b : MD) : MD := fun env => (a env).bind fun x e1 => match x with
  | .bl true => .ok (.bl true) e1
  | .bl false => b e1
  | _ => .fail
def mNotV (a : MD) : MD := fun env => (a env).bind fun x e1 => match x with
  | .bl b => .ok (.bl (!b)) e1
  | _ => .fail
def mNil : MA := fun env => .ok [] env
def mCons (a : MD) (r : MA) : MA := fun env => (a env).bind fun x e1 => (r e1).bind fun xs e2 => .ok (x :: xs) e2
def mStar (a : MD) (r : MA) : MA := fun env => (a env).bind fun x e1 => match x with
  | .tup ys => (r e1).bind fun xs e2 => .ok (ys ++ xs) e2
  | .lst ys => (r e1).bind fun xs e2 => .ok (ys ++ xs) e2
  | _ => .fail
def mTup (a : MA) : MD := fun env => (a env).bind fun xs e1 => if xs.length ≤ sizeLine then .ok (.tup xs) e1 else .fail
def mLst (a : MA) : MD := fun env => (a env).bind fun xs e1 => if xs.length ≤ sizeLine then .ok (.lst xs) e1 else .fail
def mCB (f : List D → Option D) (a : MA) : MD := fun env => (a env).bind fun xs e1 => ofO (f xs) e1
theorem sn_nil {K : PySem.W.Frag} {W : WX} : Sn K W (Dens K) emp tNil mNil := fun F H σ env fp Q _ R h => h F H fp [] Po.refl R dens_nil
section
variable {X : Cx} {W : WX} {pos : Pos}
variable {a b c e : Expr} {ta tb tc te : TE} {ma mb mc me : MD} {es rest : List Expr} {tA tB' : TT} {mA mB' : MB} {t : TA} {m : MA}
theorem gr_lst {K : PySem.W.Frag} {F H : Hp} {p : Addr} {xs : List V} {ds : List D} (e : FH F H) (hp : H p = none) (h : Dens K F ds xs) : Gr F H (upd F p (.lst xs)) (upd H p (.lst xs)) ∧ Den K (upd F p (.lst xs)) (.lst ds) (.ref p) := by
  have g : Gr F H (upd F p (.lst xs)) (upd H p (.lst xs)) := Gr.new e hp
  exact ⟨g, p, xs, rfl, .inl upd_same, Dens.mono g.f ds xs h⟩
end
end DD
namespace DD
open PySem L2
section
variable {K : PySem.W.Frag} {F F' H H' : Hp} {σ : L2.St} {env : DEnv} {fp : List Addr}
theorem Rel.len (R : Rel K F H σ env fp) : σ.length = env.length := R.at_.length
/-- a frozen thing into a slot -/
theorem Rel.set {i : Nat} {d : D} {v : V} (R : Rel K F H σ env fp) (h : Den K F d v) : ∃ fp', Rel K F H (σ.set i (some v)) (env.set i (some (.d d))) fp' ∧ ∀ a ∈ fp', a ∈ fp := by
  by_cases hi : i < env.length
  · obtain ⟨f0, fr, p, g, q⟩ := R.at_.at_ i hi
    obtain ⟨fp', a, b⟩ := (q F H (Ex.refl _) fun _ _ => rfl).2 (.d d) v [] ⟨h, rfl⟩
    have nd : (f0 ++ fr).Nodup := p.nodup_iff.mp R.nd
    have sub : ∀ a ∈ fp', a ∈ fp := fun a ha => p.symm.subset (List.mem_append_right _ (by simpa using b.subset ha))
    exact ⟨fp', ⟨R.ex, a, b.symm.nodup_iff.mp (by simpa using (List.nodup_append.mp nd).2.1), fun x hx => R.out x (sub x hx)⟩, sub⟩
  · refine ⟨fp, ?_, fun _ h => h⟩
    rw [List.set_eq_of_length_le (by rw [R.len]; omega), List.set_eq_of_length_le (by omega)]
    exact R
/-- what is owned into a slot -/
structure RelO (K : PySem.W.Frag) (F H : Hp) (σ : L2.St) (env : DEnv) (f1 f2 : List Addr) (o : O) (v : V) : Prop where
  ex : FH F H
  at_ : EnvAt K F H σ env f2
  own : OwnAt K F H o v f1
  nd : (f1 ++ f2).Nodup
  out : ∀ a ∈ f1 ++ f2, F a = none
theorem RelO.set {i : Nat} {o : O} {v : V} {f1 f2 : List Addr} (R : RelO K F H σ env f1 f2 o v) (hi : i < env.length) : ∃ fp', Rel K F H (σ.set i (some v)) (env.set i (some o)) fp' ∧ ∀ a ∈ fp', a ∈ f1 ++ f2 := by
  obtain ⟨f0, fr, p, g, q⟩ := R.at_.at_ i hi
  obtain ⟨fp', a, b⟩ := (q F H (Ex.refl _) fun _ _ => rfl).2 o v f1 R.own
  have nd : (f1 ++ (f0 ++ fr)).Nodup := (List.Perm.append_left f1 p).nodup_iff.mp R.nd
  have sub : ∀ a ∈ fp', a ∈ f1 ++ f2 := fun a ha => by
    rcases List.mem_append.mp (b.subset ha) with z | z
    · exact List.mem_append_left _ z
    · exact List.mem_append_right _ (p.symm.subset (List.mem_append_right _ z))
  refine ⟨fp', ⟨R.ex, a, b.symm.nodup_iff.mp ?_, fun x hx => R.out x (sub x hx)⟩, sub⟩
  rw [List.nodup_append] at nd ⊢
  obtain ⟨n1, n2, n3⟩ := nd
  exact ⟨n1, (List.nodup_append.mp n2).2.1, fun a ha b hb => n3 a ha b (List.mem_append_right _ hb)⟩
mutual
/-- what is owned, frozen -/
def fz : O → D
  | .d x => x
  | .lst os => .lst (fzs os)
  | .dct ks os => .dct ks (fzs os)
  | .dtt ks os => .dtt ks (fzs os)
  | .ins C ns os => .ins C ns (fzs os)
def fzs : List O → List D
  | [] => []
  | o :: os => fz o :: fzs os
end
/-- dicts -/
def isDc : Option HO → Bool
  | some (.dK _) => true
  | some (.dT _) => true
  | _ => false
/-- the dicts among fp locked -/
structure Lk (fp : List Addr) (H H' : Hp) : Prop where
  same : ∀ b, b ∉ fp ∨ isDc (H b) = false → H' b = H b
  frz : ∀ b ∈ fp, ∀ u, H b = some u → isDc (H b) = true → ∃ od, H' b = some (.frz od u)
theorem Lk.dom {fp : List Addr} {H H' : Hp} (l : Lk fp H H') {a : Addr} (h : ∃ u, H a = some u) : ∃ u, H' a = some u := by
  obtain ⟨u, hu⟩ := h
  by_cases ha : a ∈ fp
  · by_cases hd : isDc (H a) = true
    · obtain ⟨od, e⟩ := l.frz a ha u hu hd
      exact ⟨_, e⟩
    · exact ⟨u, by rw [l.same a (.inr (by simpa using hd)), hu]⟩
  · exact ⟨u, by rw [l.same a (.inl ha), hu]⟩
theorem Lk.none {fp : List Addr} {H H' : Hp} (l : Lk fp H H') {a : Addr} (h : H a = none) : H' a = none := by
  rw [l.same a (.inr (by rw [h]; rfl)), h]
mutual
theorem OwnAt.fz {fp0 : List Addr} (e : Ex F F') (l : Lk fp0 H H') : ∀ (o : O) (v : V) (fp : List Addr), (∀ a ∈ fp, a ∈ fp0 ∧ F' a = H' a) → OwnAt K F H o v fp → Den K F' (fz o) v
  | .d x, v, fp, _, ⟨h, r⟩ => Den.mono e x v h
  | .lst os, v, fp, k, ⟨a, vs, fp', r, s, h, t⟩ => ⟨a, vs, r, .inl (((k a (by rw [s]; exact List.mem_cons_self)).2.trans (l.same a (.inr (by rw [h]; rfl)))).trans h), OwnsAt.fz e l os vs fp' (fun b hb => k b (by rw [s]; exact List.mem_cons_of_mem _ hb)) t⟩
  | .dct ks os, v, fp, k, ⟨a, vs, fp', r, s, h, z, t⟩ => by
    have ka := k a (by rw [s]; exact List.mem_cons_self)
    obtain ⟨od, e2⟩ := l.frz a ka.1 _ h (by rw [h]; rfl)
    exact ⟨a, od, vs, r, ka.2.trans e2, z, OwnsAt.fz e l os vs fp' (fun b hb => k b (by rw [s]; exact List.mem_cons_of_mem _ hb)) t⟩
  | .dtt ks os, v, fp, k, ⟨a, vs, fp', r, s, h, z, t⟩ => by
    have ka := k a (by rw [s]; exact List.mem_cons_self)
    obtain ⟨od, e2⟩ := l.frz a ka.1 _ h (by rw [h]; rfl)
    exact ⟨a, od, vs, r, ka.2.trans e2, z, OwnsAt.fz e l os vs fp' (fun b hb => k b (by rw [s]; exact List.mem_cons_of_mem _ hb)) t⟩
  | .ins C ns os, v, fp, k, ⟨a, dx, vs, fp', r, s, h, z, t⟩ => ⟨a, dx, vs, r, ((k a (by rw [s]; exact List.mem_cons_self)).2.trans (l.same a (.inr (by rw [h]; rfl)))).trans h, z, OwnsAt.fz e l os vs fp' (fun b hb => k b (by rw [s]; exact List.mem_cons_of_mem _ hb)) t⟩
theorem OwnsAt.fz {fp0 : List Addr} (e : Ex F F') (l : Lk fp0 H H') : ∀ (os : List O) (vs : List V) (fp : List Addr), (∀ a ∈ fp, a ∈ fp0 ∧ F' a = H' a) → OwnsAt K F H os vs fp → Dens K F' (fzs os) vs
  | [], vs, fp, _, ⟨h, _⟩ => h
  | o :: os, vs, fp, k, ⟨x, xs, f1, f2, r, s, h, t⟩ => ⟨x, xs, r, OwnAt.fz e l o x f1 (fun b hb => k b (by rw [s]; exact List.mem_append_left _ hb)) h, OwnsAt.fz e l os xs f2 (fun b hb => k b (by rw [s]; exact List.mem_append_right _ hb)) t⟩
end
/-- the ground with the objects at fp -/
def frzF (F H : Hp) (fp : List Addr) : Hp := fun a => if a ∈ fp then H a else F a
theorem frzF_in {a : Addr} (h : a ∈ fp) : frzF F H fp a = H a := if_pos h
theorem frzF_ne {a : Addr} (h : a ∉ fp) : frzF F H fp a = F a := if_neg h
theorem frzF_ex (ho : ∀ a ∈ fp, F a = none) : Ex F (frzF F H fp) := fun a o h => by
  rw [frzF_ne fun z => by rw [ho a z] at h; cases h]
  exact h
theorem frzF_fh (e : FH F H) (l : Lk fp H H') (ho : ∀ a ∈ fp, F a = none) (hd : ∀ a ∈ fp, ∃ u, Hs H a u) : FH (frzF F H' fp) H' := by
  refine ⟨⟨fun a o h n => ?_⟩, fun a ps h => ?_⟩
  · by_cases z : a ∈ fp
    · rw [frzF_in z] at h
      exact h
    · rw [frzF_ne z] at h
      rw [l.same a (.inl z)]
      exact e.at_ a o h n
  · by_cases z : a ∈ fp
    · rw [frzF_in z] at h
      obtain ⟨u, hu⟩ := hd a z
      by_cases hc : isDc (H a) = true
      · obtain ⟨od, e1⟩ := l.frz a z u hu.e hc
        rw [e1] at h
        cases h
      · rw [l.same a (.inr (by simpa using hc)), hu.e] at h
        cases h
        have := hu.n
        cases this
    · rw [frzF_ne z] at h
      obtain ⟨q, t, e1, ps', h1, h2, h3⟩ := e.tb a ps h
      refine ⟨q, t, e1, ps', by rw [l.same a (.inl z)]; exact h1, h2, fun pos cv hc => ?_⟩
      obtain ⟨c, e2, e3⟩ := h3 pos cv hc
      exact ⟨c, e2, frzF_ex ho c _ e3⟩
/-- a slot's tree frozen -/
theorem Rel.frz {i : Nat} {o : O} (R : Rel K F H σ env fp) (ei : env[i]? = some (some o)) : ∃ f0 : List Addr, f0.Nodup ∧ (∀ a ∈ f0, ∃ u, Hs H a u) ∧ ∀ H', Lk f0 H H' → ∃ F' fp', Rel K F' H' σ (env.set i (some (.d (DD.fz o)))) fp' ∧ Po F H fp F' H' fp' := by
  have hi := (List.getElem?_eq_some_iff.mp ei).1
  obtain ⟨f0, fr, p, g, q⟩ := R.at_.at_ i hi
  obtain ⟨v, e1, own⟩ := g o ei
  have nd : (f0 ++ fr).Nodup := p.nodup_iff.mp R.nd
  have nd' := List.nodup_append.mp nd
  refine ⟨f0, nd'.1, fun a ha => OwnAt.dom o v f0 own a ha, fun H' l => ?_⟩
  have out0 : ∀ a ∈ f0, F a = none := fun a ha => R.out a (p.symm.subset (List.mem_append_left _ ha))
  have outr : ∀ a ∈ fr, F a = none := fun a ha => R.out a (p.symm.subset (List.mem_append_right _ ha))
  have e : Ex F (frzF F H' f0) := frzF_ex out0
  have ner : ∀ a ∈ fr, a ∉ f0 := fun a ha hb => nd'.2.2 a hb a ha rfl
  obtain ⟨fp', a, b⟩ := (q (frzF F H' f0) H' e fun a ha => l.same a (.inl (ner a ha))).2 (.d (DD.fz o)) v [] ⟨OwnAt.fz e l o v f0 (fun a ha => ⟨ha, frzF_in ha⟩) own, rfl⟩
  have es : σ.set i (some v) = σ := by
    obtain ⟨h1, h2⟩ := List.getElem?_eq_some_iff.mp e1
    rw [← h2]
    exact List.set_getElem_self h1
  rw [es] at a
  have sub : ∀ x ∈ fp', x ∈ fr := fun x hx => by simpa using b.subset hx
  refine ⟨_, fp', ⟨frzF_fh R.ex l out0 (fun a ha => OwnAt.dom o v f0 own a ha), a, b.symm.nodup_iff.mp (by simpa using nd'.2.1), fun x hx => ?_⟩, ⟨e, fun x o' h hn => by rw [l.same x (.inl fun z => hn (p.symm.subset (List.mem_append_left _ z)))]; exact .inl h, fun x hx => .inl (p.symm.subset (List.mem_append_right _ (sub x hx))), fun x o' h _ hn => ?_⟩⟩
  · rw [frzF_ne fun z => nd'.2.2 x z x (sub x hx) rfl]
    exact outr x (sub x hx)
  · rw [frzF_ne fun z => hn (p.symm.subset (List.mem_append_left _ z))]
    exact h
end
theorem Lk.nil {H : Hp} : Lk [] H H := ⟨fun _ _ => rfl, fun b hb => by cases hb⟩
theorem Lk.cons {a : Addr} {fp : List Addr} {H H' : Hp} {od : Obj} {u : HO} (n : a ∉ fp) (ha : H a = some u) (hd : isDc (H a) = true) (l : Lk fp (upd H a (.frz od u)) H') : Lk (a :: fp) H H' := by
  have ha' : H' a = some (.frz od u) := by
    rw [l.same a (.inl n), upd_same]
  refine ⟨fun b hb => ?_, fun b hb v hv hdb => ?_⟩
  · have nb : b ≠ a := fun z => by
      subst z
      rcases hb with hb | hb
      · exact hb List.mem_cons_self
      · rw [hd] at hb
        cases hb
    rw [l.same b (hb.imp (fun q z => q (List.mem_cons_of_mem _ z)) fun q => by rw [upd_ne nb]; exact q), upd_ne nb]
  · by_cases nb : b = a
    · subst nb
      rw [ha] at hv
      cases hv
      exact ⟨od, ha'⟩
    · have hb' : b ∈ fp := (List.mem_cons.mp hb).resolve_left nb
      exact l.frz b hb' v (by rw [upd_ne nb]; exact hv) (by rw [upd_ne nb]; exact hdb)
mutual
/-- a tree without dicts -/
def noD : O → Bool
  | .d _ => true
  | .lst os => noDs os
  | .ins _ _ os => noDs os
  | _ => false
def noDs : List O → Bool
  | [] => true
  | o :: os => noD o && noDs os
end
section
variable {K : PySem.W.Frag} {F F' H H' : Hp} {σ : L2.St} {env : DEnv} {fp : List Addr}
theorem noDs_map : ∀ ds : List D, noDs (ds.map O.d) = true
  | [] => rfl
  | d :: ds => by
    show (true && noDs (ds.map O.d)) = true
    rw [noDs_map ds]
    rfl
theorem Lk.refl {fp : List Addr} {H : Hp} (h : ∀ a ∈ fp, isDc (H a) = false) : Lk fp H H := ⟨fun _ _ => rfl, fun b hb u hu hd => by
  rw [h b hb] at hd
  cases hd⟩
end
abbrev MO := DEnv → Rs O
/-- frozen at once -/
def mFz (m : MO) : MD := fun env => (m env).bind fun o e => .ok (fz o) e
inductive RS where
  | nx (env : DEnv) | rt (d : D) (env : DEnv) | ro (o : O) (env : DEnv) | bk (env : DEnv) | ct (env : DEnv) | exc (x : Exn) (env : DEnv) | fail
abbrev MS := DEnv → RS
/-- the slots that keep their object -/
def Fx (fx : List Nat) (σ σ' : L2.St) : Prop := ∀ i ∈ fx, σ'[i]? = σ[i]?
theorem Fx.refl {fx : List Nat} {σ : L2.St} : Fx fx σ σ := fun _ _ => rfl
theorem Fx.trans {fx : List Nat} {σ σ1 σ2 : L2.St} (a : Fx fx σ σ1) (b : Fx fx σ1 σ2) : Fx fx σ σ2 := fun i h => (b i h).trans (a i h)
theorem Fx.set {fx : List Nat} {σ : L2.St} {i : Nat} {x : Option V} (h : i ∉ fx) : Fx fx σ (σ.set i x) := fun j hj => List.getElem?_set_ne (fun e => h (by rw [e]; exact hj))
/-- from an expression on -/
def Rs.on {α : Type} (r : Rs α) (k : α → DEnv → RS) : RS := match r with
  | .ok a e => k a e
  | .exc x e => .exc x e
  | .fail => .fail
@[simp] theorem Rs.on_ok {α : Type} {a : α} {e : DEnv} {k : α → DEnv → RS} : (Rs.ok a e).on k = k a e := id rfl
@[simp] theorem Rs.on_exc {α : Type} {x : Exn} {e : DEnv} {k : α → DEnv → RS} : (Rs.exc x e : Rs α).on k = .exc x e := id rfl
@[simp] theorem Rs.on_fail {α : Type} {k : α → DEnv → RS} : (Rs.fail : Rs α).on k = .fail := id rfl
def mSeq (a b : MS) : MS := fun env => match a env with
  | .nx e => b e
  | r => r
def mSet (i : Nat) (a : MD) : MS := fun env => (a env).on fun d e => .nx (e.set i (some (.d d)))
def mSetO (i : Nat) (a : MO) : MS := fun env => (a env).on fun o e => if i < e.length then .nx (e.set i (some o)) else .fail
def mRet (a : MD) : MS := fun env => (a env).on fun d e => .rt d e
def mRetO (a : MO) : MS := fun env => (a env).on fun o e => .ro o e
def mDrop (a : MD) : MS := fun env => (a env).on fun _ e => .nx e
def mIfS (c : MB) (a b : MS) : MS := fun env => (c env).on fun x e => if x = true then a e else b e
def gV (i : Nat) : D → DEnv → Option DEnv := fun d env => some (env.set i (some (.d d)))
def gVcons (a : D → DEnv → Option DEnv) (b : List D → DEnv → Option DEnv) : List D → DEnv → Option DEnv := fun ds env => match ds with
  | d :: r => (a d env).bind fun e => b r e
  | [] => none
/-- a tuple of targets: the number of them -/
def gT (n : Nat) (b : List D → DEnv → Option DEnv) : D → DEnv → Option DEnv := fun d env => match d with
  | .tup ds => if ds.length = n then b ds env else none
  | _ => none
def forM (tg : D → DEnv → Option DEnv) (body : MS) : List D → MS
  | [], env => .nx env
  | d :: ds, env => match tg d env with
    | none => .fail
    | some e1 => match body e1 with
      | .nx e2 => forM tg body ds e2
      | .ct e2 => forM tg body ds e2
      | .bk e2 => .nx e2
      | .rt d e2 => .rt d e2
      | .ro o e2 => .ro o e2
      | .exc x e2 => .exc x e2
      | .fail => .fail
def mFor (it : MA) (tg : D → DEnv → Option DEnv) (body : MS) : MS := fun env => (it env).on fun ds e => forM tg body ds e
end DD
namespace DD
open PySem L2
/-- an owned list of frozen things -/
abbrev oL (ds : List D) : O := .lst (ds.map .d)
@[simp] theorem fzs_map (ds : List D) : fzs (ds.map O.d) = ds := by
  induction ds with
  | nil => rfl
  | cons d ds ih => rw [List.map_cons, fzs, ih, fz]
@[simp] theorem fz_oL (ds : List D) : fz (oL ds) = .lst ds := by
  show D.lst (fzs (ds.map O.d)) = _
  rw [fzs_map]
@[simp] theorem fz_d (d : D) : fz (.d d) = d := rfl
def wipeE (env : DEnv) : List Nat → DEnv
  | [] => env
  | v :: vs => (wipeE env vs).set v none
@[simp] theorem wipeE_length (env : DEnv) : ∀ vs, (wipeE env vs).length = env.length
  | [] => rfl
  | v :: vs => by rw [wipeE, List.length_set, wipeE_length env vs]
def mYes : MB := fun env => .ok true env
def lcM (tg : D → DEnv → Option DEnv) (tst : MB) (elt : MD) (vs : List Nat) : List D → DEnv → Rs (List D)
  | [], env => .ok [] env
  | d :: ds, env => match tg d env with
    | none => .fail
    | some e1 => match tst e1 with
      | .ok true e2 => (match elt e2 with
        | .ok y e3 => (lcM tg tst elt vs ds (wipeE e3 vs)).bind fun ys e => .ok (y :: ys) e
        | _ => .fail)
      | .ok false e2 => lcM tg tst elt vs ds (wipeE e2 vs)
      | _ => .fail
/-- [elt for tg in it if tst] -/
def mLcs (it : MA) (tg : D → DEnv → Option DEnv) (tst : MB) (elt : MD) (vs : List Nat) : MA := fun env => (it env).bind fun ds e => if ds.length < sizeLine ∧ vs.all (· < e.length) = true then lcM tg tst elt vs ds (wipeE e vs) else .fail
def mLc (it : MA) (tg : D → DEnv → Option DEnv) (tst : MB) (elt : MD) (vs : List Nat) : MD := fun env => (mLcs it tg tst elt vs env).bind fun ys e => .ok (.lst ys) e
end DD
namespace DD
open PySem PySem.Spec PyProof.Rows L2
/-- room, and nothing that guards against itself is under way -/
structure Roam (k : Nat) (A : Around) : Prop where
  room : Room k A
  gd : A.guards = some []
theorem Roam.mono {j k : Nat} {A : Around} (r : Roam k A) (h : j ≤ k) : Roam j A := ⟨r.room.mono h, r.gd⟩
theorem Roam.deeper {k : Nat} {A : Around} (r : Roam (k + 1) A) (env : PySem.Env) : Roam k (A.deeper env) := ⟨r.room.deeper env, r.gd⟩
structure FnG (P : Program) (w : World) (K : PySem.W.Frag) (mg : Str → Option Value) (base : Heap) (CX : CXT) (k : Nat) (f : Addr) (fd : FuncData) (ps : List Str) (sp : Sp) : Prop where
  len : ∀ vs H Q E, sp vs H Q E → vs.length = ps.length
  run : ∀ (A : Around) (outer : List PySem.Env) (s : Shared) (H : Hp) (args : Args) (us : List Value) (vs : List V) (Q : VK) (E : XK), Roam k A → Env0 P w K mg base A outer s H → BindsTo s fd args (ps.zip us) → Vals vs us → sp vs H Q E →
    codeAny (model P w) A (.call (.ref f) args) (CR CX outer P w H s Q E) s
theorem FnG.mono {P : Program} {w : World} {K : PySem.W.Frag} {mg : Str → Option Value} {base : Heap} {CX : CXT} {j k : Nat} {f : Addr} {fd : FuncData} {ps : List Str} {sp : Sp} (F : FnG P w K mg base CX j f fd ps sp) (h : j ≤ k) :
    FnG P w K mg base CX k f fd ps sp := ⟨F.len, fun A outer s H args us vs Q E hr => F.run A outer s H args us vs Q E (hr.mono h)⟩
end DD
namespace DD
open PySem PySem.Spec PyProof.Rows L2
/-- a def at g that keeps its promise -/
structure FnD (P : Program) (w : World) (K : PySem.W.Frag) (mg : Str → Option Value) (base : Heap) (k : Nat) (g : Addr) (sp : Sp) : Prop where
  ex : ∃ fd ps, PySem.W.keepIn K (.ref g) = true ∧ Binds K fd ps [] ∧ FnG P w K mg base (L2.CX P w) k g fd ps sp
theorem FnD.mono {P : Program} {w : World} {K : PySem.W.Frag} {mg : Str → Option Value} {base : Heap} {j k : Nat} {g : Addr} {sp : Sp} (h : FnD P w K mg base j g sp) (l : j ≤ k) : FnD P w K mg base k g sp := by
  obtain ⟨fd, ps, a, b, c⟩ := h.ex
  exact ⟨fd, ps, a, b, c.mono l⟩
section
variable {K : PySem.W.Frag} {W : WX} {t : TA} {m : MA} {n : Nat}
/-- one slot's tree goes out and comes back changed -/
theorem Rel.split {F H : Hp} {σ : L2.St} {env : DEnv} {fp : List Addr} {i : Nat} {o : O} (R : Rel K F H σ env fp) (e : env[i]? = some (some o)) :
    ∃ (v : V) (f0 fr : List Addr), σ[i]? = some (some v) ∧ OwnAt K F H o v f0 ∧ f0.Nodup ∧ (∀ a ∈ f0, F a = none) ∧ (∀ a ∈ f0, a ∈ fp) ∧
      (∀ F' H' o' f0', Po F H f0 F' H' f0' → FH F' H' → OwnAt K F' H' o' v f0' → f0'.Nodup → (∀ a ∈ f0', F' a = none) → ∃ fp', Rel K F' H' σ (env.set i (some o')) fp' ∧ Po F H fp F' H' fp') ∧
      (∀ F' H' o' r u f1 f0', Po F H f0 F' H' (f1 ++ f0') → FH F' H' → OwnAt K F' H' o' v f0' → OwnAt K F' H' r u f1 → (f1 ++ f0').Nodup → (∀ a ∈ f1 ++ f0', F' a = none) → ∃ fp', RelO K F' H' σ (env.set i (some o')) f1 fp' r u ∧ Po F H fp F' H' (f1 ++ fp')) := by
  have hi := (List.getElem?_eq_some_iff.mp e).1
  obtain ⟨f0, fr, p, g, q⟩ := R.at_.at_ i hi
  obtain ⟨v, e1, own⟩ := g o e
  have nd : (f0 ++ fr).Nodup := p.nodup_iff.mp R.nd
  have nd' := List.nodup_append.mp nd
  have out0 : ∀ a ∈ f0, F a = none := fun a ha => R.out a (p.symm.subset (List.mem_append_left _ ha))
  have outr : ∀ a ∈ fr, F a = none := fun a ha => R.out a (p.symm.subset (List.mem_append_right _ ha))
  have domr : ∀ a ∈ fr, ∃ u, Hs H a u := fun a ha => R.at_.dom a (p.symm.subset (List.mem_append_right _ ha))
  have ner : ∀ a ∈ fr, a ∉ f0 := fun a ha hb => nd'.2.2 a hb a ha rfl
  have es : σ.set i (some v) = σ := by
    obtain ⟨h1, h2⟩ := List.getElem?_eq_some_iff.mp e1
    rw [← h2]
    exact List.set_getElem_self h1
  refine ⟨v, f0, fr, e1, own, nd'.1, out0, fun a ha => p.symm.subset (List.mem_append_left _ ha), fun F' H' o' f0' P ex own' ndn out' => ?_, fun F' H' o' r u f1 f0' P ex own' ownr ndn out' => ?_⟩
  · have hr : ∀ a ∈ fr, H' a = H a := fun a ha => by
      obtain ⟨u, hu⟩ := domr a ha
      rw [hu.e, (P.keep a u hu.e (ner a ha)).of (tb_tp hu.n)]
    have ne' : ∀ a ∈ fr, a ∉ f0' := fun a ha hb => by
      rcases P.fresh a hb with z | z
      · exact ner a ha z
      · obtain ⟨u, hu⟩ := domr a ha
        rw [hu.e] at z
        cases z
    obtain ⟨fp', a, b⟩ := (q F' H' P.f hr).2 o' v f0' own'
    rw [es] at a
    refine ⟨fp', ⟨ex, a, b.symm.nodup_iff.mp (List.nodup_append.mpr ⟨ndn, nd'.2.1, fun x hx y hy z => ne' y hy (z ▸ hx)⟩), fun x hx => ?_⟩, ⟨P.f, fun x u h n => P.keep x u h fun z => n (p.symm.subset (List.mem_append_left _ z)), fun x hx => ?_, fun x u h1 h2 n => P.out x u h1 h2 fun z => n (p.symm.subset (List.mem_append_left _ z))⟩⟩
    · rcases List.mem_append.mp (b.subset hx) with z | z
      · exact out' x z
      · obtain ⟨u, hu⟩ := domr x z
        exact P.out x u (outr x z) hu (ner x z)
    · rcases List.mem_append.mp (b.subset hx) with z | z
      · exact (P.fresh x z).imp (fun z => p.symm.subset (List.mem_append_left _ z)) id
      · exact .inl (p.symm.subset (List.mem_append_right _ z))
  · have hr : ∀ a ∈ fr, H' a = H a := fun a ha => by
      obtain ⟨u, hu⟩ := domr a ha
      rw [hu.e, (P.keep a u hu.e (ner a ha)).of (tb_tp hu.n)]
    have ne' : ∀ a ∈ fr, a ∉ f1 ++ f0' := fun a ha hb => by
      rcases P.fresh a hb with z | z
      · exact ner a ha z
      · obtain ⟨u, hu⟩ := domr a ha
        rw [hu.e] at z
        cases z
    obtain ⟨fp', a, b⟩ := (q F' H' P.f hr).2 o' v f0' own'
    rw [es] at a
    have pp : (f1 ++ fp').Perm ((f1 ++ f0') ++ fr) := by
      rw [List.append_assoc]
      exact List.Perm.append_left f1 b
    refine ⟨fp', ⟨ex, a, ownr, pp.symm.nodup_iff.mp (List.nodup_append.mpr ⟨ndn, nd'.2.1, fun x hx y hy z => ne' y hy (z ▸ hx)⟩), fun x hx => ?_⟩, ⟨P.f, fun x u h n => P.keep x u h fun z => n (p.symm.subset (List.mem_append_left _ z)), fun x hx => ?_, fun x u h1 h2 n => P.out x u h1 h2 fun z => n (p.symm.subset (List.mem_append_left _ z))⟩⟩
    · rcases List.mem_append.mp (pp.subset hx) with z | z
      · exact out' x z
      · obtain ⟨u, hu⟩ := domr x z
        exact P.out x u (outr x z) hu (ner x z)
    · rcases List.mem_append.mp (pp.subset hx) with z | z
      · exact (P.fresh x z).imp (fun z => p.symm.subset (List.mem_append_left _ z)) id
      · exact .inl (p.symm.subset (List.mem_append_right _ z))
end
end DD
namespace DD
open PySem PySem.Spec PyProof.Rows L2
section
variable {K : PySem.W.Frag}
def addD : D → D → Option D
  | .int i, .int j => some (.int (i + j))
  | .str a, .str b => if a.length + b.length ≤ sizeLine then some (.str (a ++ b)) else none
  | .lst a, .lst b => if a.length + b.length ≤ sizeLine then some (.lst (a ++ b)) else none
  | .tup a, .tup b => if a.length + b.length ≤ sizeLine then some (.tup (a ++ b)) else none
  | _, _ => none
/-- is None, is not None -/
def isNonB : D → Bool
  | .non => true
  | _ => false
def isD (d e : D) : Option D := match e with
  | .non => some (.bl (isNonB d))
  | _ => none
def isNotD (d e : D) : Option D := match e with
  | .non => some (.bl (!isNonB d))
  | _ => none
end
end DD
namespace DD
open PySem PySem.Spec PyProof.Rows L2
section
variable {K : PySem.W.Frag}
theorem atI_len {α β : Type} {xs : List α} {ys : List β} (h : xs.length = ys.length) {i : Int} {x : α} (e : atI xs i = some x) : ∃ j : Nat, xs[j]? = some x ∧ (∀ y : β, ys[j]? = some y → atI ys i = some y) := by
  unfold atI at e ⊢
  obtain ⟨j, e1, e2⟩ := Option.bind_eq_some_iff.mp e
  exact ⟨j, e2, fun y hy => by rw [← h, e1]; exact hy⟩
theorem Dens.at_ {F : Hp} {ds : List D} {vs : List V} {i : Int} {d : D} (h : Dens K F ds vs) (e : atI ds i = some d) : ∃ v, atI vs i = some v ∧ Den K F d v := by
  obtain ⟨j, e1, e2⟩ := atI_len (Dens.length h) e
  obtain ⟨v, h1, h2⟩ := Dens.get h e1
  exact ⟨v, e2 v h1, h2⟩
def getD : D → D → Option D
  | .lst ds, .int i => atI ds i
  | .tup ds, .int i => atI ds i
  | .scr ns, .int i => (atI ns i).map .int
  | .str s, .int i => if s.length ≤ sizeLine then (atI s.cps.toList i).map fun c => .str ⟨#[c]⟩ else none
  | _, _ => none
def cutD {α : Type} (xs : List α) (lo hi : Option Int) : List α := (xs.drop (HT.sIx xs.length 0 lo)).take (HT.sIx xs.length xs.length hi - HT.sIx xs.length 0 lo)
def sliceD (d : D) (lo hi : Option Int) : Option D := match d with
  | .lst ds => some (.lst (cutD ds lo hi))
  | .tup ds => some (.tup (cutD ds lo hi))
  | .scr ns => some (.lst ((cutD ns lo hi).map .int))
  | .str s => if s.length ≤ sizeLine then some (.str (cutS s lo hi)) else none
  | _ => none
def mNoPart : DEnv → Rs (Option Int) := fun env => .ok none env
def mPart (a : MD) : DEnv → Rs (Option Int) := fun env => (a env).bind fun d e => match d with
  | .int i => .ok (some i) e
  | _ => .fail
def mSlice (a : MD) (l u : DEnv → Rs (Option Int)) : MD := fun env => (a env).bind fun x e1 => (l e1).bind fun lo e2 => (u e2).bind fun hi e3 => ofO (sliceD x lo hi) e3
def lenD : List D → Option D
  | [.lst ds] => some (.int ds.length)
  | [.tup ds] => some (.int ds.length)
  | [.wtp ds] => some (.int ds.length)
  | [.scr ns] => some (.int ns.length)
  | [.str s] => if s.length ≤ sizeLine then some (.int s.length) else none
  | _ => none
/-- divmod: a pair that is unpacked at once -/
def divmodD : List D → Option D
  | [.int i, .int j] => if 0 < j ∧ j < 1073741824 then some (.tup [.int (i / j), .int (i % j)]) else none
  | _ => none
def seqD : D → Option (List D)
  | .lst ds => some ds
  | .tup ds => some ds
  | .scr ns => some (ns.map .int)
  | _ => none
def listD : List D → Option D
  | [x] => (seqD x).map .lst
  | _ => none
def tupleD : List D → Option D
  | [x] => (seqD x).map .tup
  | _ => none
end
end DD
namespace DD
open PySem PySem.Spec PyProof.Rows L2
section
variable {X : Cx} {W : WX} {tg : Expr}
/-- what a value gives when it is walked -/
def iterD : D → Option (List D)
  | .lst ds => some ds
  | .tup ds => some ds
  | .wtp ds => some ds
  | .scr ns => some (ns.map .int)
  | .str x => some (x.cps.toList.map fun c => .str ⟨#[c]⟩)
  | _ => none
def mIter (a : MD) : MA := fun env => (a env).bind fun x e => ofO (iterD x) e
def smallI (i : Int) : Bool := decide (-(2 ^ 62) ≤ i) && decide (i < 2 ^ 62)
def rngL (i : Int) (n : Nat) : List D := (List.range n).map fun k => .int (i + (k : Nat))
def rngD : List D → Option (List D)
  | [.int j] => if smallI j = true then some (rngL 0 j.toNat) else none
  | [.int i, .int j] => if (smallI i && smallI j) = true then some (rngL i (j - i).toNat) else none
  | _ => none
def mRng (a : MA) : MA := fun env => (a env).bind fun xs e => ofO (rngD xs) e
end
end DD
namespace DD
open PySem PySem.Spec PyProof.Rows L2
def enumL : Nat → List D → List D
  | _, [] => []
  | i, d :: ds => .tup [.int (i : Nat), d] :: enumL (i + 1) ds
def enumD : D → Option (List D)
  | .lst ds => some (enumL 0 ds)
  | .tup ds => some (enumL 0 ds)
  | .scr ns => some (enumL 0 (ns.map .int))
  | _ => none
def mEnum (a : MD) : MA := fun env => (a env).bind fun x e => ofO (enumD x) e
end DD
namespace DD
open PySem PySem.Spec PyProof.Rows L2
section
variable {K : PySem.W.Frag} {F F' H H' : Hp} {σ : L2.St} {env : DEnv} {fp : List Addr}
/-- what a slot owns, and what comes of a write to one of its objects -/
theorem Rel.own {i : Nat} {o : O} (R : Rel K F H σ env fp) (e : env[i]? = some (some o)) :
    ∃ v f0, σ[i]? = some (some v) ∧ OwnAt K F H o v f0 ∧ f0.Nodup ∧ (∀ a ∈ f0, F a = none) ∧ ∀ a u o', a ∈ f0 → OwnAt K F (upd H a u) o' v f0 →
      ∃ fp', Rel K F (upd H a u) σ (env.set i (some o')) fp' ∧ Po F H fp F (upd H a u) fp' := by
  obtain ⟨v, f0, fr, s1, own, nd, out0, sub, back, _⟩ := R.split e
  refine ⟨v, f0, s1, own, nd, out0, fun a u o' ha own' => ?_⟩
  refine back F (upd H a u) o' f0 ⟨Ex.refl _, fun b w h n => ?_, fun b hb => .inl hb, fun _ _ h _ _ => h⟩ (R.ex.upd (out0 a ha)) own' nd out0
  · rw [upd_ne fun z => n (by rw [z]; exact ha)]
    exact .inl h
end
section
variable {X : Cx} {W : WX} {fx : List Nat} {pos apos npos : Pos} {x : Str} {e : Expr} {te : TE} {me : MD} {i : Nat}
/-- the place of a list of frozen things -/
def setO (os : List O) (k : Int) (d : D) : Option (List O) := (ixN os.length k).bind fun j => match os[j]? with
  | some (.d _) => some (os.set j (.d d))
  | _ => none
def mD (a : MD) : MO := fun env => (a env).bind fun d e => .ok (.d d) e
def mPar2 (i j : Nat) (a b : MO) : MS := fun env => (a env).on fun o e1 => (b e1).on fun o' e2 => if i < e2.length ∧ j < e2.length then .nx ((e2.set i (some o)).set j (some o')) else .fail
/-- an owned list display of frozen things -/
def mLstO (m : MA) : MO := fun env => (m env).bind fun ds e => if ds.length ≤ sizeLine then .ok (oL ds) e else .fail
end
end DD
namespace DD
open PySem PySem.Spec PyProof.Rows L2
end DD
namespace DD
open PySem PySem.Spec PyProof.Rows L2
end DD
namespace DD
open PySem PySem.Spec PyProof.Rows L2
end DD
namespace DD
open PySem L2
def lcM2 (tg : D → DEnv → Option DEnv) (tst : MB) (it1 : MA) (tg1 : D → DEnv → Option DEnv) (tst1 : MB) (elt : MD) (vs vs1 : List Nat) : List D → DEnv → Rs (List D)
  | [], env => .ok [] env
  | d :: ds, env => match tg d env with
    | none => .fail
    | some e1 => match tst e1 with
      | .ok true e2 => (match it1 e2 with
        | .ok ds1 e3 => if ds1.length < 4096 ∧ vs1.all (· < e3.length) = true then (match lcM tg1 tst1 elt vs1 ds1 (wipeE e3 vs1) with
          | .ok ys e4 => (lcM2 tg tst it1 tg1 tst1 elt vs vs1 ds (wipeE e4 vs)).bind fun zs e => .ok (ys ++ zs) e
          | _ => .fail) else .fail
        | _ => .fail)
      | .ok false e2 => lcM2 tg tst it1 tg1 tst1 elt vs vs1 ds (wipeE e2 vs)
      | _ => .fail
def mLcs2 (it : MA) (tg : D → DEnv → Option DEnv) (tst : MB) (it1 : MA) (tg1 : D → DEnv → Option DEnv) (tst1 : MB) (elt : MD) (vs vs1 : List Nat) : MA := fun env => (it env).bind fun ds e => if ds.length < 4096 ∧ vs.all (· < e.length) = true then lcM2 tg tst it1 tg1 tst1 elt vs vs1 ds (wipeE e vs) else .fail
def mLc2 (it : MA) (tg : D → DEnv → Option DEnv) (tst : MB) (it1 : MA) (tg1 : D → DEnv → Option DEnv) (tst1 : MB) (elt : MD) (vs vs1 : List Nat) : MD := fun env => (mLcs2 it tg tst it1 tg1 tst1 elt vs vs1 env).bind fun ys e => .ok (.lst ys) e
theorem RelO.len {K : PySem.W.Frag} {F H : Hp} {τ : L2.St} {e : DEnv} {f1 fp : List Addr} {o : O} {v : V} (R : RelO K F H τ e f1 fp o v) : τ.length = e.length := R.at_.length
end DD
namespace DD
open PySem L2
end DD
namespace DD
open PySem PySem.Spec PyProof.Rows L2
/-- where something stands -/
abbrev Loc' : Type := PySem.W.Frag → Addr
def gaL (x : Str) : Loc' := fun K => He.ga K x
def maL (C m : Str) : Loc' := fun K => He.ma K (He.ga K C) m
/-- one def -/
structure DefX where
  loc : Loc'
  name : Str
  qual : Str
  st : Stmt
def FnT (K : PySem.W.Frag) (a : Addr) : He.FnW := match K.lookup a with
  | some ⟨_, _, .func ⟨n1, n2, n3, n4, n5, n6, n7, _, _, _, _, _, _, _, n15⟩, _⟩ => some (n1, n2, n3, n4, n5, n6, n7, n15)
  | _ => none
def DefX.val (d : DefX) : He.FnW := some (d.name, d.qual, defArgs d.st, .stmts (defBody d.st), defScope d.st, mainGlobals, [], builtinsNs)
def DefX.ok (K : PySem.W.Frag) (d : DefX) : Bool := PySem.W.keepIn K (.ref (d.loc K)) && (match K.lookup (d.loc K) with
  | some ⟨_, _, .func fd, _⟩ => PySem.W.codeIn K fd.code d.qual && (He.dflB K fd.defaults [] && He.kwdB K fd.kwdefaults [])
  | _ => false)
abbrev BoolX : Type := PySem.W.Frag → Bool
def faB (f : He.Fa) : BoolX := fun K => f.ok K
def obsX (bs : List BoolX) (fn : List DefX) (K : PySem.W.Frag) : He.AlD := ((bs.all fun b => b K) && fn.all fun d => d.ok K, fn.map fun d => FnT K (d.loc K))
def valX (fn : List DefX) : He.AlD := (true, fn.map DefX.val)
def SaysX (bs : List BoolX) (fn : List DefX) (K : PySem.W.Frag) : Prop := obsX bs fn K = valX fn
end DD
namespace DD
open PySem PySem.Spec PyProof.Rows L2
end DD
namespace DD
open PySem PySem.Spec PyProof.Rows L2
end DD
namespace DD
open PySem PySem.Spec PyProof.Rows L2
end DD
namespace DD
open PySem PySem.Spec PyProof.Rows L2
end DD
namespace DD
open PySem PySem.Spec PyProof.Rows L2
/-- all frozen -/
def unD : List O → Option (List D)
  | [] => some []
  | .d x :: r => (unD r).map (x :: ·)
  | _ => none
@[simp] theorem unD_map : ∀ ds : List D, unD (ds.map .d) = some ds
  | [] => rfl
  | d :: ds => by rw [List.map_cons, unD, unD_map ds]; rfl
/-- an owned dict of frozen things -/
abbrev oD (ks : List Key) (ds : List D) : O := .dct ks (ds.map .d)
@[simp] theorem fz_oD (ks : List Key) (ds : List D) : fz (oD ks ds) = .dct ks ds := by
  show D.dct ks (fzs (ds.map O.d)) = _
  rw [fzs_map]
/-- .. with tuples as keys -/
abbrev oT (ks : List (List Key)) (ds : List D) : O := .dtt ks (ds.map .d)
@[simp] theorem fz_oT (ks : List (List Key)) (ds : List D) : fz (oT ks ds) = .dtt ks ds := by
  show D.dtt ks (fzs (ds.map O.d)) = _
  rw [fzs_map]
end DD
namespace DD
open PySem PySem.Spec PyProof.Rows L2
section
variable {X : Cx} {W : WX} {fx : List Nat} {pos pos' p apos npos cpos tpos : Pos} {x : Str} {e ke ve o tg : Expr} {te tk tv td : TE} {me mk mv md : MD} {i : Nat}
theorem Den.dct {K : PySem.W.Frag} {F H : Hp} {ks : List Key} {ds : List D} {v : V} (e : FH F H) (h : Den K F (.dct ks ds) v) : ∃ a vs, v = .ref a ∧ Rd H a (.dK (ks.zip vs)) ∧ ks.length = vs.length ∧ Dens K F ds vs := by
  obtain ⟨a, o, vs, h1, h2, h3, h4⟩ := h
  exact ⟨a, vs, h1, .inr ⟨o, e.at_ _ _ h2 rfl⟩, h3, h4⟩
theorem Den.dtt {K : PySem.W.Frag} {F H : Hp} {ks : List (List Key)} {ds : List D} {v : V} (e : FH F H) (h : Den K F (.dtt ks ds) v) : ∃ a vs, v = .ref a ∧ Rd H a (.dT (ks.zip vs)) ∧ ks.length = vs.length ∧ Dens K F ds vs := by
  obtain ⟨a, o, vs, h1, h2, h3, h4⟩ := h
  exact ⟨a, vs, h1, .inr ⟨o, e.at_ _ _ h2 rfl⟩, h3, h4⟩
end
end DD
namespace DD
open PySem PySem.Spec PyProof.Rows L2
end DD
namespace DD
open PySem PySem.Spec PyProof.Rows L2
end DD
namespace DD
open PySem PySem.Spec PyProof.Rows L2
theorem u1 {X : Cx} {k : Nat} (r : Roam k X.A) : X.A.units + 1 < cLine := by
  have := r.room.un
  omega
end DD
namespace DD
open PySem PySem.Spec PyProof.Rows L2
end DD
namespace DD
open PySem PySem.Spec PyProof.Rows L2
end DD
namespace DD
open PySem PySem.Spec PyProof.Rows L2
end DD
namespace DD
open PySem PySem.Spec PyProof.Rows L2
section
variable {X : Cx} {W : WX}
def revD : D → Option D
  | .lst ds => some (.lst ds.reverse)
  | .tup ds => some (.tup ds.reverse)
  | _ => none
@[simp] theorem v_revL {xs : List D} : revD (.lst xs) = some (.lst xs.reverse) := id rfl
@[simp] theorem v_revT {xs : List D} : revD (.tup xs) = some (.tup xs.reverse) := id rfl
end
section
variable {X : Cx} {W : WX} {e : Expr} {te : TE} {me : MD} {p apos cpos pos : Pos}
def valsD : D → Option D
  | .dct _ ds => some (.lst ds)
  | _ => none
@[simp] theorem v_valsD {ks : List Key} {ds : List D} : valsD (.dct ks ds) = some (.lst ds) := id rfl
end
def neE : D → D → Option D
  | .dct ks _, .dct [] [] => some (.bl (!ks.isEmpty))
  | _, _ => none
@[simp] theorem v_neE {ks : List Key} {ds : List D} : neE (.dct ks ds) (.dct [] []) = some (.bl (!ks.isEmpty)) := id rfl
end DD
namespace DD
open PySem PySem.Spec PyProof.Rows L2
end DD
namespace DD
open PySem PySem.Spec PyProof.Rows L2
end DD
namespace DD
open PySem PySem.Spec PyProof.Rows L2
end DD
namespace DD
open PySem PySem.Spec PyProof.Rows L2
end DD
namespace DD
open PySem PySem.Spec PyProof.Rows L2
def seedG (g : Addr → Option Obj) (ns : List Str) : List Addr := ns.map (He.ga (He.frG g [mainGlobals]))
def asS (g : Addr → Option Obj) (fns cls : List Str) : List Addr := mainGlobals :: (He.growG g (seedG g fns) ++ He.growG g (He.growG g (He.growG g (He.growG g (seedG g cls)))))
end DD
namespace DD
open PySem PySem.Spec PyProof.Rows L2
end DD
namespace DD
open PySem PySem.Spec PyProof.Rows L2
end DD
namespace DD
open PySem PySem.Spec PyProof.Rows L2
end DD
namespace DD
open PySem PySem.Spec PyProof.Rows L2
end DD
namespace DD
open PySem PySem.Spec PyProof.Rows L2 PySem.W
end DD
namespace DD
open PySem PySem.Spec PyProof.Rows L2
end DD
namespace DD
open PySem PySem.Spec PyProof.Rows L2
end DD
namespace DD
open PySem PySem.Spec PyProof.Rows L2
end DD
namespace DD
open PySem PySem.Spec PyProof.Rows L2
end DD
namespace DD
open PySem PySem.Spec PyProof.Rows L2
end DD
namespace DD
open PySem PySem.Spec PyProof.Rows L2
end DD
namespace DD
open PySem PySem.Spec PyProof.Rows L2
end DD
namespace DD
open PySem PySem.Spec PyProof.Rows L2
end DD
namespace DD
open PySem PySem.Spec PyProof.Rows L2
end DD
namespace DD
open PySem PySem.Spec PyProof.Rows L2
abbrev AlX : Type := He.AlD × List (Option (List (Option (Str × Int))))
def TabsX (ts : List (Str × List Str)) (w : World) (K : PySem.W.Frag) : Prop := ts.map (fun t => He.dicW K (He.ga K t.1)) = ts.map fun t => some (He.keysIn w.params t.2)
def obsXT (bs : List BoolX) (fn : List DefX) (ts : List (Str × List Str)) (K : PySem.W.Frag) : AlX := (obsX bs fn K, ts.map fun t => He.dicW K (He.ga K t.1))
def valXT (fn : List DefX) (ts : List (Str × List Str)) (w : World) : AlX := (valX fn, ts.map fun t => some (He.keysIn w.params t.2))
end DD
namespace DD
open PySem PySem.Spec PyProof.Rows L2
end DD
namespace DD
open PySem PySem.Spec PyProof.Rows L2
end DD
set_option maxHeartbeats 2000000
namespace DD
open PySem PySem.Spec PyProof.Rows L2
end DD
namespace DD
open PySem PySem.Spec PyProof.Rows L2
end DD
set_option maxHeartbeats 200000
namespace DD
open PySem PySem.Spec PyProof.Rows L2
end DD
namespace DD
open PySem PySem.Spec PyProof.Rows L2
end DD
set_option maxHeartbeats 1000000
namespace DD
open PySem PySem.Spec PyProof.Rows L2
end DD
namespace DD
open PySem PySem.Spec PyProof.Rows L2
end DD
namespace DD
open PySem PySem.Spec PyProof.Rows L2
def isNone : Value → Bool
  | .none => true
  | _ => false
end DD
namespace DD
open PySem PySem.Spec PyProof.Rows L2
end DD
namespace DD
open PySem PySem.Spec PyProof.Rows L2
end DD
set_option maxHeartbeats 200000
namespace DD
open PySem PySem.Spec PyProof.Rows L2
end DD
namespace DD
open PySem PySem.Spec PyProof.Rows L2
inductive EB where
  | v | l | a
def EB.nw : EB → String
  | .v => "ValueError.__new__" | .l => "LookupError.__new__" | .a => "ArithmeticError.__new__"
def EB.bm : EB → List Value
  | .v => [.type "ValueError", .type "Exception", .type "BaseException", .type "object"]
  | .l => [.type "LookupError", .type "Exception", .type "BaseException", .type "object"]
  | .a => [.type "ArithmeticError", .type "Exception", .type "BaseException", .type "object"]
/-- whether an exception of the class E is met by except C -/
abbrev ExmA (K : PySem.W.Frag) (E C : Str) (b : Bool) : Prop := PySem.W.exmOne K (.ref (cadr K E)) (.ref (cadr K C)) = some b
def exmB (E C : Str) (b : Bool) : BoolX := fun K => decide (PySem.W.exmOne K (.ref (He.ga K E)) (.ref (He.ga K C)) = some b)
inductive ExmL (K : PySem.W.Frag) (C : Str) : List (Str × Bool) → Prop
  | nil : ExmL K C []
  | cons {E : Str} {b : Bool} {l : List (Str × Bool)} (h : ExmA K E C b) (t : ExmL K C l) : ExmL K C ((E, b) :: l)
theorem ExmL.at_ {K : PySem.W.Frag} {C E : Str} {b : Bool} : ∀ {l : List (Str × Bool)}, ExmL K C l → l.lookup E = some b → ExmA K E C b
  | _, .nil, h => by cases h
  | (E', b') :: l, .cons h t, e => by
    by_cases q : E = E'
    · subst q
      rw [List.lookup_cons_self] at e
      cases e
      exact h
    · rw [List.lookup_cons, show (E == E') = false from by rw [beq_eq_false_iff_ne]; exact q] at e
      exact t.at_ e
section
variable {X : Cx} {W : WX} {fx : List Nat} {pos pos' p p2 np : Pos} {C : Str} {b : EB}
abbrev WF : WX := fun _ _ _ _ => False
end
end DD
set_option maxHeartbeats 1000000
namespace DD
open PySem PySem.Spec PyProof.Rows L2
end DD
namespace DD
open PySem PySem.Spec PyProof.Rows L2
end DD
namespace DD
open PySem PySem.Spec PyProof.Rows L2
end DD
namespace DD
open PySem PySem.Spec PyProof.Rows L2
section
variable {X : Cx} {W : WX} {a b : Expr} {ta : TA}
def rgSm (i j : Int) : Bool := smallI i && smallI j && decide ((j - i).toNat ≤ 16777216)
def tupRgD : List D → Option D
  | [.int i, .int j] => if rgSm i j = true then some (.tup (rngL i (j - i).toNat)) else none
  | _ => none
def mTupRg (m : MA) : MD := fun env => (m env).bind fun xs e => ofO (tupRgD xs) e
@[simp] theorem e_tupRg {m : MA} {env : DEnv} : mTupRg m env = (m env).bind fun xs e => ofO (tupRgD xs) e := id rfl
end
end DD
set_option maxHeartbeats 4000000
namespace DD
open PySem PySem.W PySem.Calls PyProof.Rows PySem.HandSPX
def refsB (eb : EB) : List Value → Bool
  | .ref _ :: r => refsB eb r
  | l => l == eb.bm
end DD
namespace DD
open PySem PySem.Spec PyProof.Rows L2
end DD
set_option maxHeartbeats 1000000
namespace DD
open PySem PySem.Spec PyProof.Rows L2
def SnA (σ0 : L2.St) (K : PySem.W.Frag) (W : WX) {α β : Type} (rel : Hp → α → β → Prop) (F0 : Hp) (t : L2.St → Hp → (β → Hp → Prop) → Prop) (m : DEnv → Rs α) : Prop :=
  ∀ (F H : Hp) (env : DEnv) (fp : List Addr) (Q : β → Hp → Prop), Ex F0 F → Rel K F H σ0 env fp → Out K W rel F H σ0 fp Q (m env) → t σ0 H Q
section
variable {K : PySem.W.Frag} {W : WX} {σ0 : L2.St} {F0 : Hp}
theorem Sn.atA {α β : Type} {rel : Hp → α → β → Prop} {t : L2.St → Hp → (β → Hp → Prop) → Prop} {m : DEnv → Rs α} (h : Sn K W rel emp t m) : SnA σ0 K W rel F0 t m := fun F H env fp Q _ R o => h F H σ0 env fp Q ex_emp R o
theorem SnA.go {α β γ δ : Type} {rel1 : Hp → α → β → Prop} {rel2 : Hp → γ → δ → Prop} {t1 : L2.St → Hp → (β → Hp → Prop) → Prop} {m1 : DEnv → Rs α} (h1 : SnA σ0 K W rel1 F0 t1 m1)
    {F H : Hp} {env : DEnv} {fp : List Addr} {mk : α → DEnv → Rs γ} {Q : β → Hp → Prop} {Q2 : δ → Hp → Prop} (e : Ex F0 F) (R : Rel K F H σ0 env fp) (h : Out K W rel2 F H σ0 fp Q2 ((m1 env).bind mk))
    (hk : ∀ F' H' fp' env' a b, Po F H fp F' H' fp' → Rel K F' H' σ0 env' fp' → rel1 F' a b → Out K W rel2 F' H' σ0 fp' Q2 (mk a env') → Q b H') : t1 σ0 H Q := by
  refine h1 F H env fp _ e R ?_
  generalize m1 env = r at h
  cases r with
  | ok a env1 => exact fun F' H' fp' b P R' r' => hk F' H' fp' env1 a b P R' r' (Out.step P h)
  | exc x env1 => exact h
  | fail => exact h
theorem SnA.nil : SnA σ0 K W (Dens K) F0 tNil mNil := Sn.atA sn_nil
theorem SnA.cons {ta : TE} {ma : MD} {t : TA} {m : MA} (ha : SnA σ0 K W (Den K) F0 ta ma) (hr : SnA σ0 K W (Dens K) F0 t m) : SnA σ0 K W (Dens K) F0 (tCons ta t) (mCons ma m) := by
  intro F H env fp Q e0 R h
  refine ha.go e0 R h fun F1 H1 fp1 env1 x v P1 R1 d1 h1 => ?_
  refine hr.go (e0.trans P1.f) R1 h1 fun F2 H2 fp2 env2 y u P2 R2 d2 h2 => ?_
  exact h2 F2 H2 fp2 (v :: u) Po.refl R2 (dens_cons (Den.mono P2.f x v d1) d2)
theorem SnA.lst {t : TA} {m : MA} (ht : SnA σ0 K W (Dens K) F0 t m) : SnA σ0 K W (Den K) F0 (tLst t) (mLst m) := by
  intro F H env fp Q e0 R h
  refine ht.go e0 R h fun F1 H1 fp1 env1 ds xs P1 R1 d1 h1 => ?_
  by_cases hz : ds.length ≤ sizeLine
  · rw [if_pos hz] at h1
    refine ⟨by rw [← Dens.length d1]; exact hz, fun p hp => ?_⟩
    obtain ⟨g, d⟩ := gr_lst R1.ex hp d1
    exact h1 _ _ fp1 _ g.po (R1.grow g) d
  · rw [if_neg hz] at h1
    exact h1.elim
end
end DD
namespace DD
open PySem PySem.Spec PyProof.Rows L2 HotX L2H
/-- what a def promises while an exception is handled -/
structure FnW (P : Program) (w : World) (K : PySem.W.Frag) (mg : Str → Option Value) (base : Heap) (CX : CXT) (k : Nat) (f : Addr) (fd : FuncData) (ps : List Str) (sp : Sp) : Prop where
  len : ∀ vs H Q E, sp vs H Q E → vs.length = ps.length
  run : ∀ (A : Around) (outer : List PySem.Env) (s : Shared) (H : Hp) (args : Args) (us : List Value) (vs : List V) (Q : VK) (E : XK) (p : Addr × Obj), RoomH k A → PinOk outer H s p → Env0 P w K mg base A outer s H → BindsTo s fd args (ps.zip us) → Vals vs us → sp vs H Q E →
    codeAny (model P w) A (.call (.ref f) args) (CR CX outer P w H s Q E) s
end DD
namespace DD
open PySem PySem.Spec PyProof.Rows L2
/-- an expression in the suite of except C as e, e in slot i; the mirror knows the exception -/
structure PXA (X : Cx) (i : Nat) (C : Str) (a : Addr) (cls : Value) (d : Option Addr) (e : Expr) (te : TE) (s : Exn → MD) : Prop where
  pe : PE X e te
  sn : ∀ (x : Exn) (F0 : Hp) (σ0 : L2.St), ExAt X.K F0 x cls d → x.cls = C → σ0[i]? = some (some (.ref a)) → SnA σ0 X.K WF (Den X.K) F0 te (s x)
def oexIn (K : PySem.W.Frag) (C : Addr) : Bool := match K.lookup C with
  | some ⟨.type "type", _, .cls cd, sl⟩ => (match cd.mro, sl.toList with
    | .ref C' :: bm, [_, _, _, _, some (.builtin n), _] => C' == C && !cd.hasDel && cd.hasDict && [EB.v, EB.l, EB.a].any fun eb => n == eb.nw && refsB eb bm
    | _, _ => false)
  | _ => false
def oexfB (C f : Str) : BoolX := fun K => oexIn K (He.ga K C) && (decide (PySem.W.findIn K (.ref (He.ga K C)) "__setattr__" = some (some (.builtin "object.__setattr__"))) && (decide (PySem.W.subIn K (.ref (He.ga K C)) (.type "BaseException") = some true) && (decide (PySem.W.typeIn K (.ref (He.ga K C)) = some (.type "type")) && (PySem.W.keepIn K (.ref (He.ga K C)) &&
  (decide (PySem.W.findIn K (.ref (He.ga K C)) f = some none) && (decide (PySem.W.findIn K (.ref (He.ga K C)) "__init__" = some (some (.ref (maL C "__init__" K)))) && (decide (PySem.W.typeIn K (.ref (maL C "__init__" K)) = some (.type "function")) && xfB K (He.ga K C))))))))
end DD
set_option maxHeartbeats 2000000
namespace DD
open PySem PySem.Spec PyProof.Rows L2
/-- one clause: its class, its slot, its suite -/
abbrev Cl := Value × Nat × (Addr → Value → Option Addr → TS)
inductive ClsOk (X : Cx) : List ExceptHandler → List Cl → Prop
  | nil : ClsOk X [] []
  | cons {x n : Str} {c : Value} {i : Nat} {ts : Addr → Value → Option Addr → TS} {b₀ : Stmt} {suite : List Stmt} {np pos' : Pos} {hds : List ExceptHandler} {l : List Cl} (hc : Names X x c) (hi : X.N[i]? = some n) (hln : X.env.kindOf n = some .local)
      (hsu : ∀ (a : Addr) (oe : Obj) (cls : Value) (d : Option Addr) (pn : List (Addr × Obj)), Zc cls d oe → (∃ vs, oe.data = .fields vs) → PSs (X.suite a ((a, oe) :: pn)) (b₀ :: suite) (ts a cls d)) (r : ClsOk X hds l) :
      ClsOk X (.ExceptHandler (some (.Name x np)) (some n) (b₀ :: suite) pos' :: hds) ((c, i, ts) :: l)
/-- class, slot, which raised classes it meets, the suite -/
abbrev ClM := Str × Nat × List (Str × Bool) × (Exn → MD)
/-- the clauses in Python and over plain data -/
inductive ClsX (X : Cx) (fx : List Nat) : List ExceptHandler → List ClM → List Cl → Prop
  | nil : ClsX X fx [] [] []
  | cons {C n : Str} {i : Nat} {tab : List (Str × Bool)} {suite : Exn → MD} {te : Addr → Value → Option Addr → TE} {e : Expr} {np rp pos' : Pos} {hds : List ExceptHandler} {ms : List ClM} {l : List Cl}
      (hg : Gl X C) (hdb : (C == ("__debug__" : Str)) = false) (gC : X.mg C = some (.ref (cadr X.K C))) (hi : X.N[i]? = some n) (hln : X.env.kindOf n = some .local) (ht : ExmL X.K C tab) (hto : (tab.all fun p => !p.2 || decide (p.1 = C)) = true) (hfx : i ∉ fx)
      (hsu : ∀ (a : Addr) (oe : Obj) (cls : Value) (d : Option Addr) (pn : List (Addr × Obj)), Zc cls d oe → (∃ vs, oe.data = .fields vs) → PXA (X.suite a ((a, oe) :: pn)) i C a cls d e (te a cls d) suite) (r : ClsX X fx hds ms l) :
      ClsX X fx (.ExceptHandler (some (.Name C np)) (some n) [.Return (some e) rp] pos' :: hds) ((C, i, tab, suite) :: ms) ((.ref (cadr X.K C), i, fun a cls d D σ H => te a cls d σ H D.rt) :: l)
section
variable {X : Cx} {W : WX} {fx : List Nat} {hds : List ExceptHandler} {ms : List ClM} {l : List Cl} {pos : Pos}
theorem ClsX.ok (h : ClsX X fx hds ms l) : ClsOk X hds l := by
  induction h with
  | nil => exact .nil
  | cons hg hdb gC hi hln ht hto hfx hsu r ih => exact .cons ⟨hg, hdb, .inl gC⟩ hi hln (fun a oe cls d pn z f => pss_one (ps_ret (hsu a oe cls d pn z f).pe)) ih
end
end DD
set_option maxHeartbeats 3200000
namespace DD
open PySem PySem.Spec PyProof.Rows L2
end DD
set_option maxHeartbeats 1000000
namespace DD
open PySem PySem.Spec PyProof.Rows L2
end DD
namespace DD
open PySem PySem.Spec PyProof.Rows L2
end DD
set_option maxHeartbeats 4000000
namespace DD
open PySem PySem.Spec PyProof.Rows L2
end DD
set_option maxHeartbeats 200000
namespace DD
open PySem PySem.Spec PyProof.Rows L2
end DD
set_option maxHeartbeats 2000000
namespace DD
open PySem PySem.Spec PyProof.Rows L2
end DD
set_option maxHeartbeats 1000000
namespace DD
open PySem PySem.Spec PyProof.Rows L2
end DD
namespace DD
open PySem PySem.Spec PyProof.Rows L2
end DD
namespace DD
open PySem PySem.Spec PyProof.Rows L2
end DD
namespace DD
open PySem PySem.Spec PyProof.Rows L2
end DD
set_option maxHeartbeats 200000
namespace DD
open PySem PySem.Spec PyProof.Rows L2
end DD
set_option maxHeartbeats 2000000
namespace DD
open PySem PySem.Spec PyProof.Rows L2 LamX
/-- what comes of the lambda's call -/
inductive LO where
  | ok (d : D) | exc (x : Exn)
structure LamD (P : Program) (w : World) (K : PySem.W.Frag) (mg : Str → Option Value) (base : Heap) (k : Nat) (x : Str) (R : LO → Option D) : Prop where
  ex : ∃ (g : Addr) (pg : Arguments) (bg : List Stmt) (sg : Scope) (dV kV doc pm cdv ct oc : Value) (an od : Option Addr) (osl : Array (Option Value)) (Ng : List Str) (a : Str),
    mg x = some (.ref g) ∧ PySem.W.keepIn K (.ref g) = true ∧ K.lookup g = some ⟨oc, od, .func (PySem.W.fnOf x x pg bg sg dV kV doc pm an cdv ct), osl⟩ ∧ PySem.W.codeIn K cdv x = true ∧ L2.Binds K (PySem.W.fnOf x x pg bg sg dV kV doc pm an cdv ct) [a] [] ∧
    FnScope Ng [a] sg ∧ Ng[0]? = some a ∧ Vis sg a ∧ (a == ("__debug__" : Str)) = false ∧ (a == ("__classdict__" : Str)) = false ∧
    ∀ (A : Around) (outer : List PySem.Env) (f c' : Addr) (s : Shared) (H : Hp) (q : Str) (tl : XK → Hp → VK → Prop), Roam k (A.deeper (envOfC x sg s.heap.objs.size g cdv)) →
      (∀ (W : WX) (pn : List (Addr × Obj)) (xe : Value → Shared → Prop) (p1 p2 : Pos), Takes ((cxOf C8.CX0 P w K mg base Ng x sg g cdv A outer s H C8.E0).tr pn xe) W →
        PE ((cxOf C8.CX0 P w K mg base Ng x sg g cdv A outer s H C8.E0).tr pn xe) (.Call (.Name a p1) [] [] p2) (fun σZ HZ Q => σZ[0]? = some (some (.ref f)) ∧ HZ c' = some (CodeO c' q) ∧ tl (WE W σZ) HZ Q)) →
      H c' = some (CodeO c' q) → ∃ t, PSs (cxOf C8.CX0 P w K mg base Ng x sg g cdv A outer s H C8.E0).nox bg t ∧
        ∀ (MA : Hp → Hp → Prop) (r : LO) (d' : D) (Q : VK), (∀ F' H', MA F' H' → FHK K F' H') → (∀ F' H' F'' H'', MA F' H' → Gr F' H' F'' H'' → MA F'' H'') →
          (∀ (E : XK) (Qx : VK), (match r with
            | .ok d => ∀ F' H' b, MA F' H' → Den K F' d b → Qx b H'
            | .exc x => ∀ F' H' c dd, MA F' H' → ExAt K F' x c dd → E c dd H') → tl E H Qx) →
          R r = some d' → (∀ F' H' v, MA F' H' → Den K F' d' v → Q v H') → t { nx := fun _ H' => Q .non H', rt := Q } (L2.start Ng [.ref f]) H
end DD
namespace DD
open PySem PySem.Spec PyProof.Rows L2 LamX
end DD
set_option maxHeartbeats 1000000
namespace DD
open PySem PySem.Spec PyProof.Rows L2
/-- the head's fact for the maker x -/
def mkB (x : Str) : PySem.W.Frag → Bool := fun K => lamK K && (tabA K x).isSome
end DD
namespace DD
open PySem PySem.Spec PyProof.Rows L2
theorem LamD.mono {P : Program} {w : World} {K : PySem.W.Frag} {mg : Str → Option Value} {base : Heap} {j k : Nat} {x : Str} {R : LO → Option D} (L : LamD P w K mg base j x R) (h : j ≤ k) : LamD P w K mg base k x R := by
  obtain ⟨g, pg, bg, sg, dV, kV, doc, pm, cdv, ct, oc, an, od, osl, Ng, a, h1, h2, h3, h4, h5, h6, h7, h8, h9, h10, run⟩ := L.ex
  exact ⟨g, pg, bg, sg, dV, kV, doc, pm, cdv, ct, oc, an, od, osl, Ng, a, h1, h2, h3, h4, h5, h6, h7, h8, h9, h10, fun A outer f c' s H q tl hr => run A outer f c' s H q tl (hr.mono h)⟩
end DD
namespace DD
open PySem PySem.Spec PyProof.Rows L2
end DD
set_option maxHeartbeats 200000
namespace DD
open PySem PySem.Spec PyProof.Rows L2
end DD
namespace DD
open PySem PySem.Spec PyProof.Rows L2
section
variable {α β : Type} {env e1 e2 : DEnv} {i j : Nat} {a b c : MD} {p q : MB} {x y z : D} {xs ys ds es : List D} {o o' : O} {os : List O} {m n : MS} {as : MA} {mo mo' : MO} {f : D → D → Option D} {g : List D → Option D} {k l : Int} {s t : Str}
@[simp] theorem e_var : mVar i env = match env[i]? with
  | some (some (.d x)) => .ok x env
  | _ => .fail := id rfl
@[simp] theorem e_c : mC x env = .ok x env := id rfl
@[simp] theorem e_ofO_some {v : α} : ofO (some v) env = .ok v env := id rfl
@[simp] theorem e_ofO_none : (ofO none env : Rs α) = .fail := id rfl
@[simp] theorem e_op : mOp f a b env = (a env).bind fun x e1 => (b e1).bind fun y e2 => ofO (f x y) e2 := id rfl
@[simp] theorem e_un {f : D → Option D} : mUn f a env = (a env).bind fun x e1 => ofO (f x) e1 := id rfl
def asB {α : Type} (k : Bool → DEnv → Rs α) : D → DEnv → Rs α := fun x e => match x with
  | .bl b => k b e
  | _ => .fail
@[simp] theorem e_asB {k : Bool → DEnv → Rs α} {w : Bool} : asB k (.bl w) env = k w env := id rfl
@[simp] theorem e_test : mTest a env = (a env).bind (asB fun b e => .ok b e) := by
  unfold mTest asB
  cases a env with
  | ok x e => cases x <;> rfl
  | exc x e => rfl
  | fail => rfl
@[simp] theorem e_and : mAnd p q env = (p env).bind fun x e1 => if x = true then q e1 else .ok false e1 := id rfl
@[simp] theorem e_or : mOr p q env = (p env).bind fun x e1 => if x = true then .ok true e1 else q e1 := id rfl
@[simp] theorem e_not : mNot p env = (p env).bind fun x e1 => .ok (!x) e1 := id rfl
@[simp] theorem e_if {u v : DEnv → Rs α} : mIf p u v env = (p env).bind fun x e1 => if x = true then u e1 else v e1 := id rfl
@[simp] theorem e_andV : mAndV a b env = (a env).bind (asB fun w e => if w = true then b e else .ok (.bl false) e) := by
  unfold mAndV asB
  cases a env with
  | ok x e =>
    cases x with
    | bl w => cases w <;> rfl
    | _ => rfl
  | exc x e => rfl
  | fail => rfl
@[simp] theorem e_orV : mOrV a b env = (a env).bind (asB fun w e => if w = true then .ok (.bl true) e else b e) := by
  unfold mOrV asB
  cases a env with
  | ok x e =>
    cases x with
    | bl w => cases w <;> rfl
    | _ => rfl
  | exc x e => rfl
  | fail => rfl
@[simp] theorem e_notV : mNotV a env = (a env).bind (asB fun w e => .ok (.bl (!w)) e) := by
  unfold mNotV asB
  cases a env with
  | ok x e => cases x <;> rfl
  | exc x e => rfl
  | fail => rfl
@[simp] theorem e_nil : mNil env = .ok [] env := id rfl
@[simp] theorem e_cons : mCons a as env = (a env).bind fun x e1 => (as e1).bind fun xs e2 => .ok (x :: xs) e2 := id rfl
@[simp] theorem e_tup : mTup as env = (as env).bind fun xs e1 => if xs.length ≤ sizeLine then .ok (.tup xs) e1 else .fail := id rfl
@[simp] theorem e_lst : mLst as env = (as env).bind fun xs e1 => if xs.length ≤ sizeLine then .ok (.lst xs) e1 else .fail := id rfl
@[simp] theorem e_cb : mCB g as env = (as env).bind fun xs e1 => ofO (g xs) e1 := id rfl
/-- from one statement to the next -/
def andThen (n : MS) : RS → RS
  | .nx e => n e
  | r => r
@[simp] theorem andThen_nx : andThen n (.nx env) = n env := id rfl
@[simp] theorem andThen_rt : andThen n (.rt x env) = .rt x env := id rfl
@[simp] theorem andThen_ro : andThen n (.ro o env) = .ro o env := id rfl
@[simp] theorem andThen_bk : andThen n (.bk env) = .bk env := id rfl
@[simp] theorem andThen_ct : andThen n (.ct env) = .ct env := id rfl
@[simp] theorem andThen_exc {x : Exn} : andThen n (.exc x env) = .exc x env := id rfl
@[simp] theorem andThen_fail : andThen n .fail = .fail := id rfl
@[simp] theorem e_seq : mSeq m n env = andThen n (m env) := by
  unfold mSeq andThen
  cases m env <;> rfl
@[simp] theorem e_set : mSet i a env = (a env).on fun d e => .nx (e.set i (some (.d d))) := id rfl
@[simp] theorem e_setO : mSetO i mo env = (mo env).on fun o e => if i < e.length then .nx (e.set i (some o)) else .fail := id rfl
@[simp] theorem e_ret : mRet a env = (a env).on fun d e => .rt d e := id rfl
@[simp] theorem e_retO : mRetO mo env = (mo env).on fun o e => .ro o e := id rfl
@[simp] theorem e_drop : mDrop a env = (a env).on fun _ e => .nx e := id rfl
@[simp] theorem e_ifS : mIfS p m n env = (p env).on fun x e => if x = true then m e else n e := id rfl
@[simp] theorem e_D : mD a env = (a env).bind fun d e => .ok (.d d) e := id rfl
@[simp] theorem e_fz : mFz mo env = (mo env).bind fun o e => .ok (fz o) e := id rfl
@[simp] theorem e_lstO : mLstO as env = (as env).bind fun ds e => if ds.length ≤ sizeLine then .ok (oL ds) e else .fail := id rfl
@[simp] theorem e_par2 : mPar2 i j mo mo' env = (mo env).on fun o e1 => (mo' e1).on fun o' e2 => if i < e2.length ∧ j < e2.length then .nx ((e2.set i (some o)).set j (some o')) else .fail := id rfl
@[simp] theorem e_gV : gV i x env = some (env.set i (some (.d x))) := id rfl
@[simp] theorem e_gVcons {u : D → DEnv → Option DEnv} {v : List D → DEnv → Option DEnv} : gVcons u v (x :: xs) env = (u x env).bind fun e => v xs e := id rfl
@[simp] theorem e_gT {v : List D → DEnv → Option DEnv} : gT i v (.tup xs) env = if xs.length = i then v xs env else none := id rfl
@[simp] theorem e_setO_lst : setO os k x = (ixN os.length k).bind fun j => match os[j]? with
  | some (.d _) => some (os.set j (.d x))
  | _ => none := id rfl
@[simp] theorem e_fz_lst : fz (.lst os) = .lst (fzs os) := id rfl
@[simp] theorem e_fz_ins {C : Str} {ns : List Str} : fz (.ins C ns os) = .ins C ns (fzs os) := id rfl
@[simp] theorem e_fzs_nil : fzs [] = [] := id rfl
@[simp] theorem e_fzs_cons : fzs (o :: os) = fz o :: fzs os := id rfl
@[simp] theorem nd_d : noD (.d x) = true := id rfl
@[simp] theorem nd_oL {ds : List D} : noD (oL ds) = true := noDs_map ds
@[simp] theorem nd_lst : noD (.lst os) = noDs os := id rfl
@[simp] theorem nd_ins {C : Str} {ns : List Str} : noD (.ins C ns os) = noDs os := id rfl
@[simp] theorem nds_nil : noDs [] = true := id rfl
@[simp] theorem nds_cons : noDs (o :: os) = (noD o && noDs os) := id rfl
@[simp] theorem nds_map {ds : List D} : noDs (ds.map O.d) = true := noDs_map ds
@[simp] theorem e_for {u : D → DEnv → Option DEnv} : mFor as u m env = (as env).on fun ds e => forM u m ds e := id rfl
@[simp] theorem e_iter : mIter a env = (a env).bind fun x e => ofO (iterD x) e := id rfl
@[simp] theorem e_rng : mRng as env = (as env).bind fun xs e => ofO (rngD xs) e := id rfl
@[simp] theorem e_enum : mEnum a env = (a env).bind fun x e => ofO (enumD x) e := id rfl
@[simp] theorem v_iterL : iterD (.lst xs) = some xs := id rfl
@[simp] theorem v_iterT : iterD (.tup xs) = some xs := id rfl
@[simp] theorem v_iterC {ns : List Int} : iterD (.scr ns) = some (ns.map .int) := id rfl
@[simp] theorem v_enumL : enumD (.lst xs) = some (enumL 0 xs) := id rfl
@[simp] theorem v_enumT : enumD (.tup xs) = some (enumL 0 xs) := id rfl
@[simp] theorem e_slice {u v : DEnv → Rs (Option Int)} : mSlice a u v env = (a env).bind fun x e1 => (u e1).bind fun lo e2 => (v e2).bind fun hi e3 => ofO (sliceD x lo hi) e3 := id rfl
@[simp] theorem e_noPart : mNoPart env = .ok none env := id rfl
def asI {α : Type} (k : Int → DEnv → Rs α) : D → DEnv → Rs α := fun x e => match x with
  | .int i => k i e
  | _ => .fail
@[simp] theorem e_asI {k : Int → DEnv → Rs α} {w : Int} : asI k (.int w) env = k w env := id rfl
@[simp] theorem e_part : mPart a env = (a env).bind (asI fun i e => .ok (some i) e) := by
  unfold mPart asI
  cases a env with
  | ok x e => cases x <;> rfl
  | exc x e => rfl
  | fail => rfl
@[simp] theorem v_sliceL {lo hi : Option Int} : sliceD (.lst xs) lo hi = some (.lst (cutD xs lo hi)) := id rfl
@[simp] theorem v_sliceT {lo hi : Option Int} : sliceD (.tup xs) lo hi = some (.tup (cutD xs lo hi)) := id rfl
@[simp] theorem v_sliceC {lo hi : Option Int} {ns : List Int} : sliceD (.scr ns) lo hi = some (.lst ((cutD ns lo hi).map .int)) := id rfl
@[simp] theorem e_star : mStar a as env = (a env).bind fun x e1 => match x with
  | .tup ys => (as e1).bind fun xs e2 => .ok (ys ++ xs) e2
  | .lst ys => (as e1).bind fun xs e2 => .ok (ys ++ xs) e2
  | _ => .fail := id rfl
@[simp] theorem e_lcs {it tst elt} {u : D → DEnv → Option DEnv} {vs : List Nat} : mLcs it u tst elt vs env = (it env).bind fun ds e => if ds.length < sizeLine ∧ vs.all (· < e.length) = true then lcM u tst elt vs ds (wipeE e vs) else .fail := id rfl
@[simp] theorem e_lc {it tst elt} {u : D → DEnv → Option DEnv} {vs : List Nat} : mLc it u tst elt vs env = (mLcs it u tst elt vs env).bind fun ys e => .ok (.lst ys) e := id rfl
@[simp] theorem e_lcs2 {it it1 tst tst1 elt} {u u1 : D → DEnv → Option DEnv} {vs vs1 : List Nat} : mLcs2 it u tst it1 u1 tst1 elt vs vs1 env = (it env).bind fun ds e => if ds.length < 4096 ∧ vs.all (· < e.length) = true then lcM2 u tst it1 u1 tst1 elt vs vs1 ds (wipeE e vs) else .fail := id rfl
@[simp] theorem e_lc2 {it it1 tst tst1 elt} {u u1 : D → DEnv → Option DEnv} {vs vs1 : List Nat} : mLc2 it u tst it1 u1 tst1 elt vs vs1 env = (mLcs2 it u tst it1 u1 tst1 elt vs vs1 env).bind fun ys e => .ok (.lst ys) e := id rfl
@[simp] theorem e_yes : mYes env = .ok true env := id rfl
@[simp] theorem e_wipe0 : wipeE env [] = env := id rfl
@[simp] theorem e_wipe1 {v : Nat} {vs : List Nat} : wipeE env (v :: vs) = (wipeE env vs).set v none := id rfl
@[simp] theorem v_add : addD (.int k) (.int l) = some (.int (k + l)) := id rfl
@[simp] theorem v_addL : addD (.lst xs) (.lst ys) = if xs.length + ys.length ≤ sizeLine then some (.lst (xs ++ ys)) else none := id rfl
@[simp] theorem v_addT : addD (.tup xs) (.tup ys) = if xs.length + ys.length ≤ sizeLine then some (.tup (xs ++ ys)) else none := id rfl
@[simp] theorem v_addS : addD (.str s) (.str t) = if s.length + t.length ≤ sizeLine then some (.str (s ++ t)) else none := id rfl
@[simp] theorem v_is : isD x .non = some (.bl (isNonB x)) := id rfl
@[simp] theorem v_isNot : isNotD x .non = some (.bl (!isNonB x)) := id rfl
@[simp] theorem v_non1 : isNonB .non = true := id rfl
@[simp] theorem v_non2 : isNonB (.int k) = false := id rfl
@[simp] theorem v_non3 : isNonB (.str s) = false := id rfl
@[simp] theorem v_non4 : isNonB (.tup xs) = false := id rfl
@[simp] theorem v_non5 : isNonB (.lst xs) = false := id rfl
@[simp] theorem v_getL : getD (.lst xs) (.int k) = atI xs k := id rfl
@[simp] theorem v_getT : getD (.tup xs) (.int k) = atI xs k := id rfl
@[simp] theorem v_getS {ns : List Int} : getD (.scr ns) (.int k) = (atI ns k).map .int := id rfl
theorem atI_nat {xs : List α} {i : Nat} : atI xs (i : Int) = xs[i]? := by
  unfold atI ixN
  simp only [Int.natCast_nonneg, if_true, Int.ofNat_lt]
  by_cases h : i < xs.length
  · simp [h]
  · simp [h]
@[simp] theorem atI_0 {xs : List α} : atI xs 0 = xs[0]? := atI_nat (i := 0)
@[simp] theorem atI_1 {xs : List α} : atI xs 1 = xs[1]? := atI_nat (i := 1)
@[simp] theorem atI_2 {xs : List α} : atI xs 2 = xs[2]? := atI_nat (i := 2)
@[simp] theorem atI_3 {xs : List α} : atI xs 3 = xs[3]? := atI_nat (i := 3)
@[simp] theorem atI_4 {xs : List α} : atI xs 4 = xs[4]? := atI_nat (i := 4)
@[simp] theorem atI_5 {xs : List α} : atI xs 5 = xs[5]? := atI_nat (i := 5)
@[simp] theorem atI_6 {xs : List α} : atI xs 6 = xs[6]? := atI_nat (i := 6)
@[simp] theorem atI_7 {xs : List α} : atI xs 7 = xs[7]? := atI_nat (i := 7)
@[simp] theorem atI_8 {xs : List α} : atI xs 8 = xs[8]? := atI_nat (i := 8)
@[simp] theorem atI_9 {xs : List α} : atI xs 9 = xs[9]? := atI_nat (i := 9)
@[simp] theorem atI_10 {xs : List α} : atI xs 10 = xs[10]? := atI_nat (i := 10)
@[simp] theorem atI_11 {xs : List α} : atI xs 11 = xs[11]? := atI_nat (i := 11)
@[simp] theorem atI_12 {xs : List α} : atI xs 12 = xs[12]? := atI_nat (i := 12)
@[simp] theorem atI_cast {xs : List α} {n : Nat} : atI xs (n : Int) = xs[n]? := atI_nat
@[simp] theorem v_lenL : lenD [.lst xs] = some (.int xs.length) := id rfl
@[simp] theorem v_lenT : lenD [.tup xs] = some (.int xs.length) := id rfl
@[simp] theorem v_lenC {ns : List Int} : lenD [.scr ns] = some (.int ns.length) := id rfl
@[simp] theorem v_lenS : lenD [.str s] = if s.length ≤ sizeLine then some (.int s.length) else none := id rfl
@[simp] theorem v_divmod : divmodD [.int k, .int l] = if 0 < l ∧ l < 1073741824 then some (.tup [.int (k / l), .int (k % l)]) else none := id rfl
@[simp] theorem v_tupL : tupleD [.lst xs] = some (.tup xs) := id rfl
@[simp] theorem v_tupT : tupleD [.tup xs] = some (.tup xs) := id rfl
@[simp] theorem v_listL : listD [.lst xs] = some (.lst xs) := id rfl
@[simp] theorem v_listT : listD [.tup xs] = some (.lst xs) := id rfl
end
end DD
namespace DD
open PySem PySem.Spec PyProof.Rows L2
end DD
namespace DD
open PySem PySem.Spec PyProof.Rows L2
end DD
namespace DD
open PySem
end DD
namespace DD
open PySem PySem.Spec PyProof.Rows L2
end DD
set_option maxHeartbeats 4000000
namespace Mi
open PySem PySem.Spec PyProof.Rows L2 DD
end Mi
namespace Mi
open PySem PySem.Spec PyProof.Rows L2 DD
end Mi
namespace Mi
open PySem PySem.Spec PyProof.Rows L2 DD
end Mi
namespace Mi
open PySem PySem.Spec PyProof.Rows L2 DD
end Mi
namespace Mi
open PySem PySem.Spec PyProof.Rows L2 DD
end Mi
namespace Mi
open PySem PySem.Spec PyProof.Rows L2 DD
end Mi
namespace Mi
open PySem PySem.Spec PyProof.Rows L2 DD
end Mi
namespace Mi
open PySem PySem.Spec PyProof.Rows L2 DD
end Mi
namespace Mi
open PySem PySem.Spec PyProof.Rows L2 DD
end Mi
namespace Mi
open PySem PySem.Spec PyProof.Rows L2 DD
end Mi
namespace Mi
open PySem PySem.Spec PyProof.Rows L2 DD
end Mi
namespace Mi
open PySem PySem.Spec PyProof.Rows L2 DD
end Mi
namespace Mi
open PySem PySem.Spec PyProof.Rows L2 DD
end Mi
namespace Mi
open PySem PySem.Spec PyProof.Rows L2 DD
end Mi
namespace Mi
open PySem PySem.Spec PyProof.Rows L2 DD
end Mi
namespace Mi
open PySem PySem.Spec PyProof.Rows L2 DD
end Mi
namespace Mi
open PySem PySem.Spec PyProof.Rows L2 DD
end Mi
namespace Mi
open PySem PySem.Spec PyProof.Rows L2 DD
end Mi
namespace Mi
open PySem PySem.Spec PyProof.Rows L2 DD
end Mi
namespace Mi
open PySem PySem.Spec PyProof.Rows L2 DD
end Mi
namespace Mi
open PySem PySem.Spec PyProof.Rows L2 DD
end Mi
namespace Mi
open PySem PySem.Spec PyProof.Rows L2 DD
end Mi
namespace Mi
open PySem PySem.Spec PyProof.Rows L2 DD
end Mi
namespace Mi
open PySem PySem.Spec PyProof.Rows L2 DD
end Mi
namespace Mi
open PySem PySem.Spec PyProof.Rows L2 DD
end Mi
namespace Mi
open PySem PySem.Spec PyProof.Rows L2 DD
end Mi
namespace Mi
open PySem PySem.Spec PyProof.Rows L2 DD
end Mi
namespace Mi
open PySem PySem.Spec PyProof.Rows L2 DD
end Mi
namespace Mi
open PySem PySem.Spec PyProof.Rows L2 DD
end Mi
namespace Mi
open PySem PySem.Spec PyProof.Rows L2 DD
end Mi
namespace Mi
open PySem PySem.Spec PyProof.Rows L2 DD
end Mi
namespace Mi
open PySem PySem.Spec PyProof.Rows L2 DD
end Mi
namespace Mi
open PySem PySem.Spec PyProof.Rows L2 DD
end Mi
namespace Mi
open PySem PySem.Spec PyProof.Rows L2 DD
end Mi
namespace Mi
open PySem PySem.Spec PyProof.Rows L2 DD
end Mi
namespace Mi
open PySem PySem.Spec PyProof.Rows L2 DD
end Mi
namespace Mi
open PySem PySem.Spec PyProof.Rows L2 DD
end Mi
namespace Mi
open PySem PySem.Spec PyProof.Rows L2 DD
end Mi
namespace Law_k05
open PySem PySem.Spec PyProof.Rows L2 DD Mi
def top (i : Nat) : Stmt := PySem.Challenge.pw_readonce_k05_falls_and_promises_more_or.main.body.getD i (.Pass ⟨0, 0, 0, 0⟩)
abbrev st_l_jar : Stmt := top 39
abbrev st_Setting___str__ : Stmt := inClass (top 29) 7
abbrev st_is_one_of : Stmt := top 14
abbrev st_may_fall : Stmt := top 30
abbrev st_Setting_can_fall : Stmt := inClass (top 29) 3
abbrev st_are_different : Stmt := top 15
abbrev st_in_order : Stmt := top 23
abbrev st_fails_until : Stmt := top 24
abbrev st_is_name : Stmt := top 13
abbrev st_is_client_name : Stmt := top 21
abbrev st_names_until : Stmt := top 22
abbrev st_is_pair : Stmt := top 25
abbrev st_promises_until : Stmt := top 26
abbrev st_Setting_init : Stmt := inClass (top 29) 0
abbrev st_l_built : Stmt := top 35
abbrev st_l_dip : Stmt := top 33
abbrev st_l_falls : Stmt := top 32
abbrev st_l_falls_due : Stmt := top 41
abbrev st_l_one_of : Stmt := top 34
abbrev st_l_labels : Stmt := top 36
abbrev st_l_some_of : Stmt := top 37
abbrev st_l_frame : Stmt := top 38
abbrev st_l_heard : Stmt := top 40
abbrev st_Setting_joined : Stmt := inClass (top 29) 5
abbrev st_Setting_without : Stmt := inClass (top 29) 4
abbrev st_l_pair_right : Stmt := top 42
abbrev st_l_right : Stmt := top 43
abbrev st_law : Stmt := top 44
abbrev st_InvalidHouses_init : Stmt := inClass (top 4) 0
abbrev st_InvalidPromises_init : Stmt := inClass (top 7) 0
abbrev st_UnknownName_init : Stmt := inClass (top 9) 0
end Law_k05
namespace Law_k05
open PySem PySem.Spec PyProof.Rows L2 DD Mi
def fnL : List DefX := [⟨gaL "_law_jar", "_law_jar", "_law_jar", st_l_jar⟩,
  ⟨maL "Setting" "__str__", "__str__", "Setting.__str__", st_Setting___str__⟩,
  ⟨gaL "is_one_of", "is_one_of", "is_one_of", st_is_one_of⟩,
  ⟨gaL "may_fall", "may_fall", "may_fall", st_may_fall⟩,
  ⟨maL "Setting" "can_fall", "can_fall", "Setting.can_fall", st_Setting_can_fall⟩,
  ⟨gaL "are_different", "are_different", "are_different", st_are_different⟩,
  ⟨gaL "in_order", "in_order", "in_order", st_in_order⟩,
  ⟨gaL "fails_until", "fails_until", "fails_until", st_fails_until⟩,
  ⟨gaL "is_name", "is_name", "is_name", st_is_name⟩,
  ⟨gaL "is_client_name", "is_client_name", "is_client_name", st_is_client_name⟩,
  ⟨gaL "names_until", "names_until", "names_until", st_names_until⟩,
  ⟨gaL "is_pair", "is_pair", "is_pair", st_is_pair⟩,
  ⟨gaL "promises_until", "promises_until", "promises_until", st_promises_until⟩,
  ⟨maL "Setting" "__init__", "__init__", "Setting.__init__", st_Setting_init⟩,
  ⟨gaL "_law_built", "_law_built", "_law_built", st_l_built⟩,
  ⟨gaL "_law_dip", "_law_dip", "_law_dip", st_l_dip⟩,
  ⟨gaL "_law_falls", "_law_falls", "_law_falls", st_l_falls⟩,
  ⟨gaL "_law_falls_due", "_law_falls_due", "_law_falls_due", st_l_falls_due⟩,
  ⟨gaL "_law_one_of", "_law_one_of", "_law_one_of", st_l_one_of⟩,
  ⟨gaL "_law_labels", "_law_labels", "_law_labels", st_l_labels⟩,
  ⟨gaL "_law_some_of", "_law_some_of", "_law_some_of", st_l_some_of⟩,
  ⟨gaL "_law_frame", "_law_frame", "_law_frame", st_l_frame⟩,
  ⟨gaL "_law_heard", "_law_heard", "_law_heard", st_l_heard⟩,
  ⟨maL "Setting" "joined", "joined", "Setting.joined", st_Setting_joined⟩,
  ⟨maL "Setting" "without", "without", "Setting.without", st_Setting_without⟩,
  ⟨gaL "_law_pair_right", "_law_pair_right", "_law_pair_right", st_l_pair_right⟩,
  ⟨gaL "_law_right", "_law_right", "_law_right", st_l_right⟩,
  ⟨gaL "law", "law", "law", st_law⟩,
  ⟨maL "InvalidHouses" "__init__", "__init__", "InvalidHouses.__init__", st_InvalidHouses_init⟩,
  ⟨maL "InvalidPromises" "__init__", "__init__", "InvalidPromises.__init__", st_InvalidPromises_init⟩,
  ⟨maL "UnknownName" "__init__", "__init__", "UnknownName.__init__", st_UnknownName_init⟩]
def faL : List BoolX := [faB (.glo "_law_jar"),
  faB (.glo "is_one_of"),
  faB (.glo "may_fall"),
  faB (.glo "are_different"),
  faB (.glo "in_order"),
  faB (.glo "fails_until"),
  faB (.glo "is_name"),
  faB (.glo "is_client_name"),
  faB (.glo "names_until"),
  faB (.glo "is_pair"),
  faB (.glo "promises_until"),
  faB (.glo "_law_built"),
  faB (.glo "_law_dip"),
  faB (.glo "_law_falls"),
  faB (.glo "_law_falls_due"),
  faB (.glo "_law_one_of"),
  faB (.glo "_law_labels"),
  faB (.glo "_law_some_of"),
  faB (.glo "_law_frame"),
  faB (.glo "_law_heard"),
  faB (.glo "_law_pair_right"),
  faB (.glo "_law_right"),
  faB (.glo "law"),
  faB (.free "len"),
  faB (.free "int"),
  faB (.free "abs"),
  faB (.free "isinstance"),
  faB (.free "str"),
  faB (.free "any"),
  faB (.free "all"),
  faB (.free "tuple"),
  faB (.free "enumerate"),
  faB (.free "set"),
  faB (.free "sorted"),
  faB (.free "divmod"),
  faB (.free "repr"),
  faB (.free "range"),
  faB (.free "list"),
  faB (.free "min"),
  faB (.free "max"),
  faB (.int "MOST_FAILS" 8),
  faB (.int "MOST_LETTERS" 8),
  faB (.str "LETTERS" "abcdefghijklmnopqrstuvwxyz"),
  faB (.str "WRITER" "w"),
  faB (.int "MOST_HOUSES" 8),
  faB (.int "MOST_READERS" 5),
  faB (.cls "Setting"),
  faB (.meth "Setting" "__str__"),
  faB (.meth "Setting" "can_fall"),
  faB (.meth "Setting" "joined"),
  faB (.meth "Setting" "without"),
  faB (.noat "Setting" "houses"),
  faB (.noat "Setting" "fails"),
  faB (.noat "Setting" "readers"),
  faB (.noat "Setting" "promises"),
  faB (.glo "Setting"),
  faB (.mkr "Setting"),
  oexfB "UnknownName" "given",
  oexfB "InvalidPromises" "index",
  oexfB "InvalidHouses" "index",
  faB (.glo "InvalidHouses"),
  faB (.glo "UnknownName"),
  faB (.glo "InvalidPromises"),
  exmB "UnknownName" "UnknownName" true,
  exmB "InvalidPromises" "UnknownName" false,
  exmB "InvalidHouses" "UnknownName" false,
  exmB "UnknownName" "InvalidPromises" false,
  exmB "InvalidPromises" "InvalidPromises" true,
  exmB "InvalidHouses" "InvalidPromises" false,
  exmB "UnknownName" "InvalidHouses" false,
  exmB "InvalidPromises" "InvalidHouses" false,
  exmB "InvalidHouses" "InvalidHouses" true,
  mkB "_law_pair_right",
  mkB "_law_right"]
end Law_k05
set_option maxHeartbeats 2000000
namespace DD
open PySem PySem.Spec PyProof.Rows L2
abbrev emTab : Obj := { cls := .none, data := .fields #[] }
/-- what is asked of the tables at the head -/
structure TabsAt (K : PySem.W.Frag) (h : Heap) (ts : List (Addr × Addr)) : Prop where
  em : ∀ p ∈ ts, h.get? p.2 = some emTab
  no : ∀ p ∈ ts, K.lookup p.2 = none
  cd : ∀ p ∈ ts, PySem.W.CodeHd h p.1 p.2
theorem TabsAt.at_ {K : PySem.W.Frag} {h : Heap} {ts : List (Addr × Addr)} (t : TabsAt K h ts) {b : Addr} (hb : b ∈ ts.map Prod.snd) : h.get? b = some emTab ∧ K.lookup b = none := by
  obtain ⟨p, hp, rfl⟩ := List.mem_map.mp hb
  exact ⟨t.em p hp, t.no p hp⟩
/-- the makers that there are: name, code object, table -/
def mkTs (K : PySem.W.Frag) : List (Str × Addr × Addr) := makers.filterMap fun x => match codA K x, tabA K x with
  | some c, some P => some (x, c, P)
  | _, _ => none
/-- what the head says of them -/
def mkOk (K : PySem.W.Frag) : Bool := decide ((mkTs K).map fun t => t.2.2).Nodup && (mkTs K).all fun t => (K.lookup t.2.2).isNone && PySem.W.codeHdIn K t.2.1 t.2.2
def emB (o : Option Obj) : Bool := match o with
  | some ⟨.none, none, .fields vs, os⟩ => vs.isEmpty && os.isEmpty
  | _ => false
theorem emB_ok {o : Option Obj} (h : emB o = true) : o = some emTab := by
  unfold emB at h
  split at h
  · rename_i vs os
    obtain ⟨h1, h2⟩ := He.ba h
    rw [Array.isEmpty_iff.mp h1, Array.isEmpty_iff.mp h2]
  · cases h
abbrev AlT : Type := AlX × Bool
def obsXL (fns cls : List Str) (bs : List BoolX) (fn : List DefX) (ts : List (Str × List Str)) (g : Addr → Option Obj) : AlT :=
  let K := He.frG g (cStatics :: asS g fns cls)
  (obsXT bs fn ts K, mkOk K && (mkTs K).all fun t => emB (g t.2.2))
def hookL (fns cls : List Str) (bs : List BoolX) (fn : List DefX) (ts : List (Str × List Str)) : PySem.W.Hook where
  α := AlT
  obs := fun s => obsXL fns cls bs fn ts s.heap.get?
  val := fun w => (valXT fn ts w, true)
  says := fun w h => ∃ K : PySem.W.Frag, K.In h ∧ SaysX bs fn K ∧ TabsX ts w K ∧ mkOk K = true ∧ ((mkTs K).all fun t => emB (h.get? t.2.2)) = true
  of := fun _ s e => by
    have e1 := congrArg (fun z : AlT => z.1.1) e
    have e2 := congrArg (fun z : AlT => z.1.2) e
    have e3 : (mkOk (He.frG s.heap.get? (cStatics :: asS s.heap.get? fns cls)) && (mkTs (He.frG s.heap.get? (cStatics :: asS s.heap.get? fns cls))).all fun t => emB (s.heap.get? t.2.2)) = true := congrArg (fun z : AlT => z.2) e
    exact ⟨_, He.frG_in, e1, e2, (He.ba e3).1, (He.ba e3).2⟩
  keeps := fun _ _ _ z k => by
    obtain ⟨K, hK, c, tb, m1, m2⟩ := z
    refine ⟨K, PySem.W.Frag.In.keeps hK k, c, tb, m1, List.all_eq_true.mpr fun t ht => ?_⟩
    have e := emB_ok (List.all_eq_true.mp m2 t ht)
    rw [k _ _ e, ← e]
    exact List.all_eq_true.mp m2 t ht
end DD
set_option maxHeartbeats 0
namespace Law_k05
open PySem PySem.Spec PyProof.Rows L2 DD
abbrev R : PySem.W.OpenRow := PySem.W.OpenLaw.row PySem.Challenge.rw_readonce_k05_falls_and_promises_more_or
def fnNs0 : List Str := ["_law_jar", "is_one_of", "may_fall", "are_different", "in_order", "fails_until", "is_name", "is_client_name", "names_until", "is_pair", "promises_until", "_law_built", "_law_dip", "_law_falls", "_law_falls_due", "_law_one_of", "_law_labels", "_law_some_of", "_law_frame", "_law_heard"]
def fnNs1 : List Str := ["_law_pair_right", "_law_right", "law"]
def fnNs : List Str := fnNs0 ++ fnNs1
def clNs0 : List Str := ["Setting", "UnknownName", "InvalidPromises", "InvalidHouses"]
def clNs : List Str := clNs0
abbrev hk : PySem.W.Hook := hookL fnNs clNs faL fnL []
def ob (s : PySem.W.SharedT) : AlT := obsXL fnNs clNs faL fnL [] (HandSHeadRun.getT s)
def lo0 : List Str := ["_wall", "__name__", "WrongValue", "InvalidText", "InvalidHouses", "InvalidFails", "InvalidReaders", "InvalidPromises", "WrongName", "UnknownName", "LETTERS", "MOST_LETTERS", "is_name", "is_one_of", "are_different", "MOST_HOUSES", "MOST_FAILS", "MOST_READERS", "WRITER", "is_client_name"]
def lo1 : List Str := ["names_until", "in_order", "fails_until", "is_pair", "promises_until", "parts_in", "setting_with", "Setting", "may_fall", "_law_falls", "_law_dip", "_law_one_of", "_law_built", "_law_labels", "_law_some_of", "_law_frame", "_law_jar", "_law_heard", "_law_falls_due", "_law_pair_right"]
def lo2 : List Str := ["_law_right"]
def loose : List Str := lo0 ++ lo1 ++ lo2
theorem run (w : World) : HandSHeadRun.RunEq R (PySem.W.view R.prog [44]) hk ob 16000 loose w := by
  intro os
  kernel_rfl
end Law_k05
set_option maxHeartbeats 200000
namespace Mi
open PySem PySem.Spec PyProof.Rows L2 DD
end Mi
namespace Mi
open PySem PySem.Spec PyProof.Rows L2 DD
end Mi
namespace Mi
open PySem DD
end Mi
namespace Mi
open PySem DD
end Mi
namespace Mi
open PySem DD
end Mi
namespace Mi
open PySem DD
end Mi
namespace Mi
open PySem DD
end Mi
namespace Mi
open PySem DD
end Mi
namespace Mi
open PySem PySem.Spec PyProof.Rows L2 DD
end Mi
namespace Mi
open PySem DD
end Mi
namespace Mi
open PySem DD
end Mi
namespace Mi
open PySem DD
end Mi
namespace Mi
open PySem DD
end Mi
namespace Mi
open PySem DD
end Mi
namespace Mi
open PySem DD
end Mi
namespace Mi
open PySem DD
end Mi
namespace Mi
open PySem DD
end Mi
namespace Mi
open PySem DD
end Mi
namespace DD
open PySem PySem.Spec PyProof.Rows L2
end DD
namespace Mi
open PySem DD
end Mi
namespace Mi
open PySem DD
end Mi
namespace Mi
open PySem DD
end Mi
namespace Mi
open PySem DD
end Mi
namespace Mi
open PySem DD
end Mi
namespace Mi
open PySem DD
end Mi
namespace DD
open PySem PySem.Spec PyProof.Rows L2
end DD
namespace Mi
open PySem DD
end Mi
namespace Mi
open PySem DD
end Mi
namespace Mi
open PySem DD
end Mi
namespace Mi
open PySem DD
end Mi
namespace Mi
open PySem DD
end Mi
namespace Mi
open PySem DD
end Mi
namespace Mi
open PySem DD
end Mi
namespace Mi
open PySem DD
end Mi
namespace Mi
open PySem DD
end Mi
namespace Mi
open PySem DD
end Mi
namespace Mi
open PySem DD
end Mi
namespace Mi
open PySem DD
end Mi
namespace Mi
open PySem DD
end Mi
namespace Mi
open PySem DD
end Mi
namespace Mi
open PySem DD
end Mi
namespace Mi
open PySem DD
end Mi
namespace Mi
open PySem DD
end Mi
namespace Mi
open PySem DD
end Mi
namespace Mi
open PySem DD
end Mi
namespace Mi
open PySem DD
end Mi
namespace Mi
open PySem DD
end Mi
namespace Mi
open PySem DD
end Mi
namespace Mi
open PySem DD
end Mi
namespace Mi
open PySem DD
end Mi
set_option maxHeartbeats 4000000
namespace Mi
open PySem DD
end Mi
namespace Mi
open PySem DD
end Mi
namespace Mi
open PySem DD
end Mi
namespace Mi
open PySem DD
end Mi
namespace Mi
open PySem DD
end Mi
namespace Mi
open PySem DD
end Mi
namespace Mi
open PySem DD
end Mi
namespace Mi
open PySem DD
end Mi
namespace Mi
open PySem DD
end Mi
namespace Mi
open PySem DD
end Mi
namespace Mi
open PySem DD
end Mi
namespace Mi
open PySem DD
end Mi
namespace Mi
open PySem DD
end Mi
namespace Mi
open PySem DD
end Mi
namespace Mi
open PySem DD
end Mi
namespace Mi
open PySem DD
end Mi
set_option maxHeartbeats 200000
namespace Mi
open PySem DD
end Mi
namespace Mi
open PySem DD
end Mi
set_option maxHeartbeats 4000000
namespace Mi
open PySem DD
end Mi
namespace Mi
open PySem DD
end Mi
namespace Mi
open PySem DD
open L2 (Key)
end Mi
namespace Mi
open PySem DD
end Mi
namespace Mi
open PySem DD
end Mi
namespace Mi
open PySem DD
open L2 (Key)
end Mi
namespace Mi
open PySem DD
end Mi
namespace Mi
open PySem DD
end Mi
namespace Mi
open PySem DD
end Mi
namespace Mi
open PySem DD
end Mi
namespace Mi
open PySem DD
end Mi
namespace Mi
open PySem DD
end Mi
namespace Mi
open PySem DD
end Mi
namespace Mi
open PySem DD
open L2 (Key)
end Mi
set_option maxHeartbeats 1000000
namespace Mi
open PySem DD
end Mi
namespace Mi
open PySem DD
open Classical
end Mi
namespace Mi
open PySem DD
open Classical
end Mi
namespace Mi
open PySem DD
open Classical
end Mi
namespace Mi
open PySem DD
open Classical
end Mi
namespace Mi
open PySem DD
open Classical
end Mi
namespace Mi
open PySem DD
open Classical
end Mi
namespace Mi
open PySem DD
end Mi
namespace Mi
open PySem DD
open Classical
end Mi
namespace Mi
open PySem DD
open Classical
end Mi
set_option maxHeartbeats 4000000
namespace Mi
open PySem DD
end Mi
namespace Mi
open PySem DD
end Mi
set_option maxHeartbeats 1000000
namespace Mi
open PySem DD
open L2 (Key)
end Mi
set_option maxHeartbeats 4000000
namespace Mi
open PySem DD
end Mi
namespace Mi
open PySem DD
end Mi
namespace Mi
open PySem DD
end Mi
set_option maxHeartbeats 1000000
namespace Mi
open PySem DD
end Mi
namespace Mi
open PySem DD
end Mi
namespace Mi
open PySem DD
open Classical
end Mi
namespace Mi
open PySem DD
open Classical
end Mi
namespace Mi
open PySem DD
open Classical
end Mi
namespace Mi
open PySem DD
open Classical
end Mi
namespace Mi
open PySem DD
open Classical
end Mi
namespace Mi
open PySem DD
end Mi
namespace Mi
open PySem DD
open Classical
end Mi
namespace Mi
open PySem DD
open Classical
end Mi
namespace Mi
open PySem DD
open Classical
end Mi
namespace Mi
open PySem DD
open Classical
end Mi
namespace Mi
open PySem DD
open Classical
end Mi
namespace Mi
open PySem DD
open Classical
end Mi
set_option maxHeartbeats 200000
set_option maxHeartbeats 0
open PySem PySem.W PySem.Calls PyProof.Rows
end
set_option Elab.async false
set_option linter.all false
set_option maxRecDepth 100000
set_option maxHeartbeats 200000
namespace DD
open PySem L2
theorem FA.t {K : PySem.W.Frag} {F H : Hp} {a : Addr} {xs : List V} (e : FA F H) (h : SqT K F a xs) : SqT K H a xs := by
  rcases h with h | h
  · exact Or.inl (e.rd h)
  · exact Or.inr h
theorem Denb.w {wk : Bool} {K : PySem.W.Frag} {F : Hp} {d : D} {v : V} (h : Denb wk K F d v) : Denw K F d v := by
  cases wk with
  | true => exact h
  | false => exact .inl h
section
variable {K : PySem.W.Frag} {F F' H H' : Hp}
theorem EnvAt.mk : ∀ {σ : L2.St} {env : DEnv} {fp : List Addr}, EnvAt K F H σ env fp → MkF K F
  | [], [], _, h => h.2
  | _ :: σ, none :: env, fp, h => EnvAt.mk (σ := σ) (env := env) (fp := fp) h
  | v :: σ, some o :: env, fp, ⟨x, f1, f2, r, s, h, t⟩ => EnvAt.mk t
  | [], _ :: _, _, h => h.elim
  | _ :: _, [], _, h => h.elim
theorem EnvAt.val {σ : L2.St} {env : DEnv} {fp : List Addr} {i : Nat} {x : D} (h : EnvAt K F H σ env fp) (e : env[i]? = some (some (.d x))) : ∃ v, σ[i]? = some (some v) ∧ Den K F x v := by
  obtain ⟨f0, fr, p, g, q⟩ := h.at_ i (List.getElem?_eq_some_iff.mp e).1
  obtain ⟨v, h1, h2⟩ := g _ e
  exact ⟨v, h1, h2.1⟩
end
section
variable {K : PySem.W.Frag} {F H F' H' : Hp} {σ : L2.St} {env : DEnv} {fp : List Addr}
theorem Rel.exk (R : Rel K F H σ env fp) : FHK K F H := ⟨R.ex, R.at_.mk⟩
theorem Rel.val {i : Nat} {x : D} (R : Rel K F H σ env fp) (e : env[i]? = some (some (.d x))) : ∃ v, σ[i]? = some (some v) ∧ Den K F x v := R.at_.val e
end
end DD
namespace DD
open PySem PySem.Spec PyProof.Rows L2
/-- a pair that is unpacked at once -/
structure PDw (X : Cx) (W : WX) (e : Expr) (t : TE) (m : DEnv → Rs D) : Prop where
  pe : PE X e t
  sn : Sn X.K W (Denw X.K) emp t m
abbrev relB (_ : Hp) (a b : Bool) : Prop := a = b
structure PD (X : Cx) (W : WX) (e : Expr) (t : TE) (m : DEnv → Rs D) : Prop where
  pe : PE X e t
  sn : Sn X.K W (Den X.K) emp t m
structure PDT (X : Cx) (W : WX) (e : Expr) (t : TT) (m : DEnv → Rs Bool) : Prop where
  pt : PT X e t
  sn : Sn X.K W relB emp t m
/-- within and, or: whatever its whole is -/
structure PDW (X : Cx) (W : WX) (e : Expr) (t : TT) (m : DEnv → Rs Bool) : Prop where
  pw : PW X e t
  sn : Sn X.K W relB emp t m
structure PDA (X : Cx) (W : WX) (es : List Expr) (t : TA) (m : DEnv → Rs (List D)) : Prop where
  pa : PA X es t
  sn : Sn X.K W (Dens X.K) emp t m
def OpD (K : PySem.W.Frag) (r : R2) (f : D → D → Option D) : Prop :=
  ∀ (F H : Hp) (x y : D) (a b : V) (z : D), FH F H → Den K F x a → Den K F y b → f x y = some z → ∀ Q : VK, (∀ F' H' c, Gr F H F' H' → Den K F' z c → Q c H') → r a b H Q
def CallD (K : PySem.W.Frag) (r : List V → Hp → VK → Prop) (f : List D → Option D) : Prop :=
  ∀ (F H : Hp) (xs : List D) (as : List V) (z : D), FH F H → Dens K F xs as → f xs = some z → ∀ Q : VK, (∀ F' H' c, Gr F H F' H' → Den K F' z c → Q c H') → r as H Q
theorem out_ofO {α β : Type} {K : PySem.W.Frag} {W : WX} {rel : Hp → α → β → Prop} {F H : Hp} {σ : L2.St} {env : DEnv} {fp : List Addr} {Q : β → Hp → Prop} {a : Option α} (R : Rel K F H σ env fp) (h : Out K W rel F H σ fp Q (ofO a env)) :
    ∃ c, a = some c ∧ ∀ F' H' b, Gr F H F' H' → rel F' c b → Q b H' := by
  cases a with
  | none => exact h.elim
  | some c => exact ⟨c, rfl, fun F' H' b g r => h F' H' fp b g.po (R.grow g) r⟩
theorem sn_op {K : PySem.W.Frag} {W : WX} {ta tb : TE} {ma mb : MD} {r : R2} {f : D → D → Option D} (ha : Sn K W (Den K) emp ta ma) (hb : Sn K W (Den K) emp tb mb) (hf : OpD K r f) : Sn K W (Den K) emp (tOp r ta tb) (mOp f ma mb) := by
  intro F H σ env fp Q _ R h
  refine ha.go ex_emp R h fun F1 H1 fp1 env1 x v P1 R1 d1 h1 => ?_
  refine hb.go ex_emp R1 h1 fun F2 H2 fp2 env2 y u P2 R2 d2 h2 => ?_
  obtain ⟨c, e, k⟩ := out_ofO R2 h2
  exact hf F2 H2 x y v u c R2.ex (Den.mono P2.f x v d1) d2 e Q k
theorem sn_cb {K : PySem.W.Frag} {W : WX} {t : TA} {m : MA} {r : List V → Hp → VK → Prop} {f : List D → Option D} (ha : Sn K W (Dens K) emp t m) (hf : CallD K r f) : Sn K W (Den K) emp (fun σ H Q => t σ H fun vs H1 => r vs H1 Q) (mCB f m) := by
  intro F H σ env fp Q _ R h
  refine ha.go ex_emp R h fun F1 H1 fp1 env1 x v P1 R1 d1 h1 => ?_
  obtain ⟨c, e, k⟩ := out_ofO R1 h1
  exact hf F1 H1 x v c R1.ex d1 e Q k
theorem sn_cons {K : PySem.W.Frag} {W : WX} {ta : TE} {ma : MD} {t : TA} {m : MA} (ha : Sn K W (Den K) emp ta ma) (hr : Sn K W (Dens K) emp t m) : Sn K W (Dens K) emp (tCons ta t) (mCons ma m) := by
  intro F H σ env fp Q _ R h
  refine ha.go ex_emp R h fun F1 H1 fp1 env1 x v P1 R1 d1 h1 => ?_
  refine hr.go ex_emp R1 h1 fun F2 H2 fp2 env2 y u P2 R2 d2 h2 => ?_
  exact h2 F2 H2 fp2 (v :: u) Po.refl R2 (dens_cons (Den.mono P2.f x v d1) d2)
section
variable {X : Cx} {W : WX} {pos : Pos}
theorem sn_var {K : PySem.W.Frag} {W : WX} {i : Nat} : Sn K W (Den K) emp (tVar i) (mVar i) := by
  intro F H σ env fp Q _ R h
  unfold mVar at h
  split at h
  · rename_i x e
    obtain ⟨v, h1, h2⟩ := R.val e
    exact ⟨v, h1, h F H fp v Po.refl R h2⟩
  · exact h.elim
theorem dv (i : Nat) {x : Str} {pos : Pos} (hN : X.N[i]? = some x := by rfl) (hv : Vis X.env.scope x := by first | exact Or.inl rfl | exact Or.inr (Or.inl rfl) | exact Or.inr (Or.inr rfl)) (hd : (x == ("__debug__" : Str)) = false := by decide)
    (hcd : (x == ("__classdict__" : Str)) = false := by decide) : PD X W (.Name x pos) (tVar i) (mVar i) := ⟨pe_var hN hv hd hcd, sn_var⟩
theorem sn_c {K : PySem.W.Frag} {W : WX} {d : D} {v : V} (hd : Den K emp d v) : Sn K W (Den K) emp (tC v) (mC d) := fun F H σ env fp Q _ R h => h F H fp v Po.refl R (Den.mono ex_emp d v hd)
theorem pd_int {i : Int} {j pos} : PD X W (.Constant (.int i) j pos) (tC (.int i)) (mC (.int i)) := ⟨pe_int, sn_c rfl⟩
theorem pd_bl {b j pos} : PD X W (.Constant (.bool b) j pos) (tC (.bl b)) (mC (.bl b)) := ⟨pe_bl, sn_c rfl⟩
theorem pd_non {j pos} : PD X W (.Constant .none j pos) (tC .non) (mC .non) := ⟨pe_non, sn_c rfl⟩
theorem pd_str {x j pos} : PD X W (.Constant (.str x) j pos) (tC (.str x)) (mC (.str x)) := ⟨pe_str, sn_c rfl⟩
/-- a module's name that stands for an int, a text -/
theorem pd_globi {x : Str} {i : Int} {t : Tok} (hg : Gl X x) (hm : X.mg x = some (.int i t)) (hdb : (x == ("__debug__" : Str)) = false := by decide) : PD X W (.Name x pos) (tC (.int i)) (mC (.int i)) := ⟨pe_glob hg hm ⟨_, rfl⟩ hdb, sn_c rfl⟩
theorem pd_globs {x s : Str} {t : Tok} (hg : Gl X x) (hm : X.mg x = some (.str s t)) (hdb : (x == ("__debug__" : Str)) = false := by decide) : PD X W (.Name x pos) (tC (.str s)) (mC (.str s)) := ⟨pe_glob hg hm ⟨_, rfl⟩ hdb, sn_c rfl⟩
variable {a b c e : Expr} {ta tb tc te : TE} {ma mb mc me : MD} {es rest : List Expr} {tA tB' : TT} {mA mB' : MB} {t : TA} {m : MA}
theorem pd_op {op : Operator} {r : R2} {f : D → D → Option D} (ho : OpR X (binaryOp op) r) (hf : OpD X.K r f) (ha : PD X W a ta ma) (hb : PD X W b tb mb) : PD X W (.BinOp a op b pos) (tOp r ta tb) (mOp f ma mb) := ⟨pe_op ho ha.pe hb.pe, sn_op ha.sn hb.sn hf⟩
theorem pd_cmp {op : CmpOp} {r : R2} {f : D → D → Option D} (ho : OpR X (compareOp op) r) (hf : OpD X.K r f) (ha : PD X W a ta ma) (hb : PD X W b tb mb) (hm : behindInMarks op b = false := by first | exact nomark _ | rfl) : PD X W (.Compare a [op] [b] pos) (tOp r ta tb) (mOp f ma mb) := ⟨pe_cmpR ho ha.pe hb.pe hm, sn_op ha.sn hb.sn hf⟩
theorem sn_test {K : PySem.W.Frag} {W : WX} {ta : TE} {ma : MD} (ha : Sn K W (Den K) emp ta ma) : Sn K W relB emp (fun σ H Q => ta σ H fun x H1 => ∃ c, x = .bl c ∧ Q c H1) (mTest ma) := by
  intro F H σ env fp Q _ R h
  refine ha.go ex_emp R h fun F1 H1 fp1 env1 x v P1 R1 d1 h1 => ?_
  cases x with
  | bl b => exact ⟨b, d1, h1 F1 H1 fp1 b Po.refl R1 rfl⟩
  | _ => exact h1.elim
theorem pdt_cmp {op : CmpOp} {r : R2} {f : D → D → Option D} (ho : OpR X (compareOp op) r) (hf : OpD X.K r f) (ha : PD X W a ta ma) (hb : PD X W b tb mb) (hm : behindInMarks op b = false := by first | exact nomark _ | rfl) : PDT X W (.Compare a [op] [b] pos) (tTest (tOp r ta tb)) (mTest (mOp f ma mb)) := ⟨pt_cmpR ho ha.pe hb.pe hm, sn_test (sn_op ha.sn hb.sn hf)⟩
theorem pdt_val (h : PD X W e te me) (he : ∀ whole, isTrue e X.env whole = (do let v ← whole; standAt e.pos; holding [v] (truthy v)) := by intro _; rfl) : PDT X W e (tB te) (mTest me) := ⟨pt_val h.pe he, sn_test h.sn⟩
theorem sn_and {K : PySem.W.Frag} {W : WX} {tA tB' : TT} {mA mB' : MB} (ha : Sn K W relB emp tA mA) (hb : Sn K W relB emp tB' mB') : Sn K W relB emp (tAnd tA tB') (mAnd mA mB') := by
  intro F H σ env fp Q _ R h
  refine ha.go ex_emp R h fun F1 H1 fp1 env1 x v P1 R1 d1 h1 => ?_
  have e' : x = v := d1
  subst e'
  cases x with
  | true => exact hb F1 H1 σ env1 fp1 Q ex_emp R1 h1
  | false => exact h1 F1 H1 fp1 false Po.refl R1 rfl
theorem sn_or {K : PySem.W.Frag} {W : WX} {tA tB' : TT} {mA mB' : MB} (ha : Sn K W relB emp tA mA) (hb : Sn K W relB emp tB' mB') : Sn K W relB emp (tOr tA tB') (mOr mA mB') := by
  intro F H σ env fp Q _ R h
  refine ha.go ex_emp R h fun F1 H1 fp1 env1 x v P1 R1 d1 h1 => ?_
  have e' : x = v := d1
  subst e'
  cases x with
  | false => exact hb F1 H1 σ env1 fp1 Q ex_emp R1 h1
  | true => exact h1 F1 H1 fp1 true Po.refl R1 rfl
theorem sn_not {K : PySem.W.Frag} {W : WX} {tA : TT} {mA : MB} (ha : Sn K W relB emp tA mA) : Sn K W relB emp (tNot tA) (mNot mA) := by
  intro F H σ env fp Q _ R h
  refine ha.go ex_emp R h fun F1 H1 fp1 env1 x v P1 R1 d1 h1 => ?_
  have e' : x = v := d1
  subst e'
  exact h1 F1 H1 fp1 _ Po.refl R1 rfl
theorem sn_andV {K : PySem.W.Frag} {W : WX} {ta tb : TE} {ma mb : MD} (ha : Sn K W (Den K) emp ta ma) (hb : Sn K W (Den K) emp tb mb) : Sn K W (Den K) emp (tAndV ta tb) (mAndV ma mb) := by
  intro F H σ env fp Q _ R h
  refine ha.go ex_emp R h fun F1 H1 fp1 env1 x v P1 R1 d1 h1 => ?_
  cases x with
  | bl b =>
    refine ⟨b, d1, ?_⟩
    cases b with
    | true => exact hb F1 H1 σ env1 fp1 Q ex_emp R1 h1
    | false => exact h1 F1 H1 fp1 (.bl false) Po.refl R1 rfl
  | _ => exact h1.elim
theorem sn_if {α β : Type} {K : PySem.W.Frag} {W : WX} {rel : Hp → α → β → Prop} {tA : TT} {mA : MB} {ta tb : L2.St → Hp → (β → Hp → Prop) → Prop} {ma mb : DEnv → Rs α} (hc : Sn K W relB emp tA mA) (ha : Sn K W rel emp ta ma) (hb : Sn K W rel emp tb mb) :
    Sn K W rel emp (fun σ H Q => tA σ H fun c H1 => if c = true then ta σ H1 Q else tb σ H1 Q) (mIf mA ma mb) := by
  intro F H σ env fp Q _ R h
  refine hc.go ex_emp R h fun F1 H1 fp1 env1 x v P1 R1 d1 h1 => ?_
  have e' : x = v := d1
  subst e'
  cases x with
  | true => exact ha F1 H1 σ env1 fp1 Q ex_emp R1 h1
  | false => exact hb F1 H1 σ env1 fp1 Q ex_emp R1 h1
theorem pdw_and1 (ha : PDT X W a tA mA) : PDW X W (.BoolOp .And [a] pos) tA mA := ⟨pw_and1 ha.pt, ha.sn⟩
theorem pdw_or1 (ha : PDT X W a tA mA) : PDW X W (.BoolOp .Or [a] pos) tA mA := ⟨pw_or1 ha.pt, ha.sn⟩
theorem pdw_and (ha : PDT X W a tA mA) (hb : PDW X W (.BoolOp .And (b :: rest) pos) tB' mB') : PDW X W (.BoolOp .And (a :: b :: rest) pos) (tAnd tA tB') (mAnd mA mB') := ⟨pw_and ha.pt hb.pw, sn_and ha.sn hb.sn⟩
theorem pdw_or (ha : PDT X W a tA mA) (hb : PDW X W (.BoolOp .Or (b :: rest) pos) tB' mB') : PDW X W (.BoolOp .Or (a :: b :: rest) pos) (tOr tA tB') (mOr mA mB') := ⟨pw_or ha.pt hb.pw, sn_or ha.sn hb.sn⟩
theorem pdt_w (h : PDW X W e tA mA) : PDT X W e tA mA := ⟨h.pw.pt, h.sn⟩
theorem pdt_not (ha : PDT X W a tA mA) : PDT X W (.UnaryOp .Not a pos) (tNot tA) (mNot mA) := ⟨pt_not ha.pt, sn_not ha.sn⟩
theorem pd_one {op} (h : PD X W a ta ma) : PD X W (.BoolOp op [a] pos) ta ma := ⟨pe_one h.pe, h.sn⟩
theorem pd_and (ha : PD X W a ta ma) (hb : PD X W (.BoolOp .And (b :: rest) pos) tb mb) : PD X W (.BoolOp .And (a :: b :: rest) pos) (tAndV ta tb) (mAndV ma mb) := ⟨pe_and ha.pe hb.pe, sn_andV ha.sn hb.sn⟩
theorem pd_if (hc : PDT X W c tA mA) (ha : PD X W a ta ma) (hb : PD X W b tb mb) : PD X W (.IfExp c a b pos) (tIf tA ta tb) (mIf mA ma mb) := ⟨pe_ifExp hc.pt ha.pe hb.pe, sn_if hc.sn ha.sn hb.sn⟩
theorem pda_nil : PDA X W [] tNil mNil := ⟨pa_nil, sn_nil⟩
theorem pda_cons (ha : PD X W e te me) (hr : PDA X W es t m) (hs : starEach (e :: es) X.env = (false, eval e X.env) :: starEach es X.env := by rfl) : PDA X W (e :: es) (tCons te t) (mCons me m) := ⟨pa_cons ha.pe hr.pa hs, sn_cons ha.sn hr.sn⟩
theorem gr_tup {K : PySem.W.Frag} {F H : Hp} {p : Addr} {o : Obj} {xs : List V} {ds : List D} (e : FH F H) (hp : H p = none) (ho : o.dict = none) (h : Dens K F ds xs) : Gr F H (upd F p (.frz o (.tup xs))) (upd H p (.frz o (.tup xs))) ∧ Den K (upd F p (.frz o (.tup xs))) (.tup ds) (.ref p) := by
  have g : Gr F H (upd F p (.frz o (.tup xs))) (upd H p (.frz o (.tup xs))) := Gr.new e hp
  exact ⟨g, p, o, xs, rfl, upd_same, ho, Dens.mono g.f ds xs h⟩
/-- a written tuple, told as the object that it is -/
def tTupE (t : TA) : TE := fun σ H Q => t σ H fun xs H1 => xs.length ≤ sizeLine ∧ ∀ p o, H1 p = none → o.dict = none → Q (.ref p) (upd H1 p (.frz o (.tup xs)))
theorem pe_tupE {x1} (h : PA X es t) : PE X (.Tuple es x1 pos) (tTupE t) := by
  constructor
  intro pins s σ H Q I hq
  refine wpAny_Tuple_spliced (thn (h.run pos pins s σ H _ I hq) ?_)
  rintro us s1 ⟨xs, H1, I1, r, z, q⟩
  refine ⟨r.length ▸ z, ?_⟩
  have hx := Heap.get?_push_size s1.heap (o := { cls := .type "tuple", data := .seq us.toArray }) rfl
  have J := I1.laid (t' := s1.toks) (o := .frz { cls := .type "tuple", data := .seq us.toArray } (.tup xs)) (fun b u e => Heap.get?_push_of_some _ e) (Nat.le_refl _) ⟨hx, z, us, r, ⟨_, hx, rfl, _, rfl⟩⟩
  exact ⟨.ref _, _, J, rfl, q _ _ (I1.hok.fresh (Nat.le_refl _)) rfl⟩
theorem sn_tup {K : PySem.W.Frag} {W : WX} {t : TA} {m : MA} (ht : Sn K W (Dens K) emp t m) : Sn K W (Den K) emp (tTupE t) (mTup m) := by
  intro F H σ env fp Q _ R h
  refine ht.go ex_emp R h fun F1 H1 fp1 env1 ds xs P1 R1 d1 h1 => ?_
  by_cases hz : ds.length ≤ sizeLine
  · rw [if_pos hz] at h1
    refine ⟨by rw [← Dens.length d1]; exact hz, fun p o hp ho => ?_⟩
    obtain ⟨g, d⟩ := gr_tup R1.ex hp ho d1
    exact h1 _ _ fp1 _ g.po (R1.grow g) d
  · rw [if_neg hz] at h1
    exact h1.elim
theorem sn_lst {K : PySem.W.Frag} {W : WX} {t : TA} {m : MA} (ht : Sn K W (Dens K) emp t m) : Sn K W (Den K) emp (tLst t) (mLst m) := by
  intro F H σ env fp Q _ R h
  refine ht.go ex_emp R h fun F1 H1 fp1 env1 ds xs P1 R1 d1 h1 => ?_
  by_cases hz : ds.length ≤ sizeLine
  · rw [if_pos hz] at h1
    refine ⟨by rw [← Dens.length d1]; exact hz, fun p hp => ?_⟩
    obtain ⟨g, d⟩ := gr_lst R1.ex hp d1
    exact h1 _ _ fp1 _ g.po (R1.grow g) d
  · rw [if_neg hz] at h1
    exact h1.elim
theorem pd_tup {x1} (h : PDA X W es t m) : PD X W (.Tuple es x1 pos) (tTupE t) (mTup m) := ⟨pe_tupE h.pa, sn_tup h.sn⟩
theorem pd_lst (h : PDA X W es t m) : PD X W (.List es pos) (tLst t) (mLst m) := ⟨pe_lst h.pa, sn_lst h.sn⟩
theorem pd_callB {id : String} {x : Str} {p : Pos} {r : List V → Hp → VK → Prop} {f : List D → Option D} (hc : CallR X (.builtin id) r) (hf : CallD X.K r f) (hg : Gl X x) (hm : X.mg x = none) (hv : bootBuiltins x = some (.builtin id)) (ha : PDA X W (e :: es) t m) (hn : x ≠ "__name__" := by decide) (hdb : (x == ("__debug__" : Str)) = false := by decide)
    (he : starEach (e :: es) X.env = (false, eval e X.env) :: starEach es X.env := by rfl) (hpl : (backTo pos (starEach es X.env)).any (·.1) = false := by rfl) : PD X W (.Call (.Name x p) (e :: es) [] pos) (tCB r t) (mCB f m) := ⟨pe_callB hc hg hm hv ha.pa hn hdb he hpl, sn_cb ha.sn hf⟩
theorem pd_callTy {T : String} {x : Str} {p : Pos} {r : List V → Hp → VK → Prop} {f : List D → Option D} (hc : CallR X (.type T) r) (hf : CallD X.K r f) (hg : Gl X x) (hm : X.mg x = none) (hv : bootBuiltins x = some (.type T)) (ha : PDA X W (e :: es) t m) (hn : x ≠ "__name__" := by decide) (hdb : (x == ("__debug__" : Str)) = false := by decide)
    (he : starEach (e :: es) X.env = (false, eval e X.env) :: starEach es X.env := by rfl) (hpl : (backTo pos (starEach es X.env)).any (·.1) = false := by rfl) : PD X W (.Call (.Name x p) (e :: es) [] pos) (tCB r t) (mCB f m) := ⟨pe_callTy hc hg hm hv ha.pa hn hdb he hpl, sn_cb ha.sn hf⟩
/-- a[i] -/
theorem pd_ix {i : Expr} {ti : TE} {mi : MD} {r : R2} {f : D → D → Option D} (ho : IxR X r) (hf : OpD X.K r f) (ha : PD X W a ta ma) (hi : PD X W i ti mi) (hs : PlainIx i := by exact fun _ _ => rfl) : PD X W (.Subscript a i pos) (tOp r ta ti) (mOp f ma mi) := ⟨pe_ix ho ha.pe hi.pe hs, sn_op ha.sn hi.sn hf⟩
/-- a < b < c -/
def mChain (f g : D → D → Option D) (a b c : MD) : MD := fun env => (a env).bind fun x e1 => (b e1).bind fun y e2 => match f x y with
  | some (.bl true) => (c e2).bind fun z e3 => ofO (g y z) e3
  | some (.bl false) => .ok (.bl false) e2
  | _ => .fail
end
end DD
namespace DD
open PySem L2
section
variable {K : PySem.W.Frag} {F F' H H' : Hp} {σ : L2.St} {env : DEnv} {fp : List Addr}
/-- a slot forgotten -/
theorem Rel.forget {i : Nat} {x : Option V} (R : Rel K F H σ env fp) (hi : i < env.length) : ∃ fp', Rel K F H (σ.set i x) (env.set i none) fp' ∧ ∀ a ∈ fp', a ∈ fp := by
  obtain ⟨f0, fr, p, g, q⟩ := R.at_.at_ i hi
  have nd : (f0 ++ fr).Nodup := p.nodup_iff.mp R.nd
  have sub : ∀ a ∈ fr, a ∈ fp := fun a ha => p.symm.subset (List.mem_append_right _ ha)
  exact ⟨fr, ⟨R.ex, (q F H (Ex.refl _) fun _ _ => rfl).1 x, (List.nodup_append.mp nd).2.1, fun a ha => R.out a (sub a ha)⟩, sub⟩
theorem Po.sub {F H : Hp} {fp fp' : List Addr} (h : ∀ a ∈ fp', a ∈ fp) : Po F H fp F H fp' := ⟨Ex.refl F, fun _ _ h _ => .inl h, fun a ha => .inl (h a ha), fun _ _ h _ _ => h⟩
theorem RelO.fz {o : O} {v : V} {f1 f2 : List Addr} (R : RelO K F H σ env f1 f2 o v) (l : Lk f1 H H') : Rel K (frzF F H' f1) H' σ env f2 ∧ Den K (frzF F H' f1) (fz o) v ∧ Po F H (f1 ++ f2) (frzF F H' f1) H' f2 := by
  have e : Ex F (frzF F H' f1) := frzF_ex fun a ha => R.out a (List.mem_append_left _ ha)
  have nd := List.nodup_append.mp R.nd
  have ne : ∀ a ∈ f2, a ∉ f1 := fun a ha hb => nd.2.2 a hb a ha rfl
  refine ⟨⟨frzF_fh R.ex l (fun a ha => R.out a (List.mem_append_left _ ha)) (fun a ha => OwnAt.dom o v f1 R.own a ha), R.at_.mono e fun a ha => l.same a (.inl (ne a ha)), nd.2.1, fun a ha => ?_⟩, OwnAt.fz e l o v f1 (fun a ha => ⟨ha, frzF_in ha⟩) R.own, ⟨e, fun a o' h n => by rw [l.same a (.inl fun z => n (List.mem_append_left _ z))]; exact .inl h, fun a ha => .inl (List.mem_append_right _ ha), fun a o' h _ hn => ?_⟩⟩
  · rw [frzF_ne (ne a ha)]
    exact R.out a (List.mem_append_right _ ha)
  · rw [frzF_ne fun z => hn (List.mem_append_left _ z)]
    exact h
end
theorem Lk.skip {a : Addr} {fp : List Addr} {H H' : Hp} (l : Lk fp H H') (h : isDc (H a) = false) : Lk (a :: fp) H H' := ⟨fun b hb => l.same b (hb.imp (fun n z => n (List.mem_cons_of_mem _ z)) id), fun b hb u hu hd => by
  rcases List.mem_cons.mp hb with z | z
  · rw [z, h] at hd
    cases hd
  · exact l.frz b z u hu hd⟩
theorem isDc_mut {u : HO} (h : isDc (some u) = true) : Mut (some u) := by
  cases u <;> first | trivial | cases h
theorem inv_lk {X : Cx} {pins : List (Addr × Obj)} {σ : L2.St} {s : Shared} : ∀ {fp : List Addr} {H : Hp}, fp.Nodup → Inv X pins σ H s → ∃ H', Lk fp H H' ∧ Inv X pins σ H' s
  | [], H, _, I => ⟨H, Lk.nil, I⟩
  | a :: fp, H, nd, I => by
    obtain ⟨n, nd⟩ := List.nodup_cons.mp nd
    by_cases hd : isDc (H a) = true
    · cases ha : H a with
      | none =>
        rw [ha] at hd
        cases hd
      | some u =>
        obtain ⟨od, I2⟩ := L2.Inv.lock I ha (isDc_mut (by rw [← ha]; exact hd))
        obtain ⟨H', l, I3⟩ := inv_lk nd I2
        exact ⟨H', l.cons n ha hd, I3⟩
    · obtain ⟨H', l, I3⟩ := inv_lk nd I
      exact ⟨H', l.skip (by simpa using hd), I3⟩
/-- e, its dicts locked behind it -/
def tFix (t : TE) : TE := fun σ H Q => t σ H fun v H1 => ∃ fp : List Addr, fp.Nodup ∧ ∀ H2, Lk fp H1 H2 → Q v H2
theorem pe_fix {X : Cx} {e : Expr} {t : TE} (h : PE X e t) : PE X e (tFix t) := by
  refine ⟨fun pins s σ H Q I hw => ?_⟩
  refine thn (h.run pins s σ H _ I hw) fun u s1 ⟨v, H1, I1, r, fp, nd, q⟩ => ?_
  obtain ⟨H2, l, I2⟩ := inv_lk nd I1
  exact ⟨v, H2, I2, r, q H2 l⟩
def tFixS (t : TS) : TS := fun D σ H => ∃ fp : List Addr, fp.Nodup ∧ ∀ H2, Lk fp H H2 → t D σ H2
theorem ps_fix {X : Cx} {st : Stmt} {t : TS} (h : PS X st t) : PS X st (tFixS t) := by
  refine ⟨fun pins s σ H D I hw => ?_⟩
  obtain ⟨fp, nd, q⟩ := hw
  obtain ⟨H2, l, I2⟩ := inv_lk nd I
  exact h.run pins s σ H2 D I2 (q H2 l)
section
variable {K : PySem.W.Frag} {F F' H H' : Hp} {σ : L2.St} {env : DEnv} {fp : List Addr}
mutual
theorem OwnAt.nodc : ∀ (o : O) (v : V) (fp : List Addr), noD o = true → OwnAt K F H o v fp → ∀ a ∈ fp, isDc (H a) = false
  | .d x, v, fp, _, ⟨_, r⟩, a, ha => by rw [r] at ha; cases ha
  | .lst os, v, fp, n, ⟨a, vs, fp', r, s, h, t⟩, b, hb => by
    rw [s] at hb
    rcases List.mem_cons.mp hb with e | hb
    · rw [e, h]; rfl
    · exact OwnsAt.nodc os vs fp' n t b hb
  | .ins C ns os, v, fp, n, ⟨a, dx, vs, fp', r, s, h, l, t⟩, b, hb => by
    rw [s] at hb
    rcases List.mem_cons.mp hb with e | hb
    · rw [e, h]; rfl
    · exact OwnsAt.nodc os vs fp' n t b hb
  | .dct _ _, _, _, n, _, _, _ => by cases n
  | .dtt _ _, _, _, n, _, _, _ => by cases n
theorem OwnsAt.nodc : ∀ (os : List O) (vs : List V) (fp : List Addr), noDs os = true → OwnsAt K F H os vs fp → ∀ a ∈ fp, isDc (H a) = false
  | [], vs, fp, _, ⟨_, h⟩, a, ha => by rw [h] at ha; cases ha
  | o :: os, vs, fp, n, ⟨x, xs, f1, f2, r, s, h, t⟩, a, ha => by
    have n' : noD o = true ∧ noDs os = true := by simpa [noDs] using n
    rw [s] at ha
    rcases List.mem_append.mp ha with ha | ha
    · exact OwnAt.nodc o x f1 n'.1 h a ha
    · exact OwnsAt.nodc os xs f2 n'.2 t a ha
end
end
def OutO (K : PySem.W.Frag) (W : WX) (F H : Hp) (σ : L2.St) (fp : List Addr) (Q : VK) : Rs O → Prop
  | .ok o env => ∀ F' H' f1 f2 v, Po F H fp F' H' (f1 ++ f2) → RelO K F' H' σ env f1 f2 o v → Q v H'
  | .exc x env => ∀ F' H' fp' c dd, Po F H fp F' H' fp' → Rel K F' H' σ env fp' → ExAt K F' x c dd → W c dd σ H'
  | .fail => False
theorem OutO.step {K : PySem.W.Frag} {W : WX} {F H F1 H1 : Hp} {σ : L2.St} {fp fp1 : List Addr} {Q : VK} {r : Rs O} (P : Po F H fp F1 H1 fp1) (h : OutO K W F H σ fp Q r) : OutO K W F1 H1 σ fp1 Q r := by
  cases r with
  | ok a env => exact fun F' H' f1 f2 b P' => h F' H' f1 f2 b (P.trans P')
  | exc x env => exact fun F' H' fp' c dd P' => h F' H' fp' c dd (P.trans P')
  | fail => exact h
def SnO (K : PySem.W.Frag) (W : WX) (t : TE) (m : DEnv → Rs O) : Prop :=
  ∀ (F H : Hp) (σ : L2.St) (env : DEnv) (fp : List Addr) (Q : VK), Rel K F H σ env fp → OutO K W F H σ fp Q (m env) → t σ H Q
structure PDO (X : Cx) (W : WX) (e : Expr) (t : TE) (m : DEnv → Rs O) : Prop where
  pe : PE X e t
  sn : SnO X.K W t m
theorem pd_fz {X : Cx} {W : WX} {e : Expr} {t : TE} {m : MO} (h : PDO X W e t m) : PD X W e (tFix t) (mFz m) := by
  refine ⟨pe_fix h.pe, fun F H σ env fp Q _ R hq => h.sn F H σ env fp _ R ?_⟩
  unfold mFz at hq
  generalize m env = r at hq
  cases r with
  | ok o e1 =>
    intro F' H' f1 f2 v P R'
    refine ⟨f1, (List.nodup_append.mp R'.nd).1, fun H2 l => ?_⟩
    obtain ⟨a, b, c⟩ := R'.fz l
    exact hq _ _ f2 v (P.trans c) a b
  | exc x e1 => exact hq
  | fail => exact hq
/-- the same of trees without dicts -/
theorem pd_fz0 {X : Cx} {W : WX} {e : Expr} {t : TE} {m : MO} (h : PDO X W e t m) (hn : ∀ env o e, m env = .ok o e → noD o = true) : PD X W e t (mFz m) := by
  refine ⟨h.pe, fun F H σ env fp Q _ R hq => h.sn F H σ env fp _ R ?_⟩
  unfold mFz at hq
  have hn' := hn env
  generalize m env = r at hq hn'
  cases r with
  | ok o e1 =>
    intro F' H' f1 f2 v P R'
    obtain ⟨a, b, c⟩ := R'.fz (Lk.refl (OwnAt.nodc o v f1 (hn' o e1 rfl) R'.own))
    exact hq _ _ f2 v (P.trans c) a b
  | exc x e1 => exact hq
  | fail => exact hq
def OutS (K : PySem.W.Frag) (W : WX) (fx : List Nat) (F H : Hp) (σ : L2.St) (fp : List Addr) (D' : Ends) : RS → Prop
  | .nx env => ∀ F' H' σ' fp', Po F H fp F' H' fp' → Fx fx σ σ' → Rel K F' H' σ' env fp' → D'.nx σ' H'
  | .rt d env => ∀ F' H' σ' fp' v, Po F H fp F' H' fp' → Fx fx σ σ' → Rel K F' H' σ' env fp' → Den K F' d v → D'.rt v H'
  | .ro o env => ∀ F' H' σ' f1 f2 v, Po F H fp F' H' (f1 ++ f2) → Fx fx σ σ' → RelO K F' H' σ' env f1 f2 o v → D'.rt v H'
  | .bk env => ∀ F' H' σ' fp', Po F H fp F' H' fp' → Fx fx σ σ' → Rel K F' H' σ' env fp' → D'.bk σ' H'
  | .ct env => ∀ F' H' σ' fp', Po F H fp F' H' fp' → Fx fx σ σ' → Rel K F' H' σ' env fp' → D'.ct σ' H'
  | .exc x env => ∀ F' H' σ' fp' c dd, Po F H fp F' H' fp' → Fx fx σ σ' → Rel K F' H' σ' env fp' → ExAt K F' x c dd → W c dd σ' H'
  | .fail => False
theorem OutS.step {K : PySem.W.Frag} {W : WX} {fx : List Nat} {F H F1 H1 : Hp} {σ σ1 : L2.St} {fp fp1 : List Addr} {D' : Ends} {r : RS} (P : Po F H fp F1 H1 fp1) (x : Fx fx σ σ1) (h : OutS K W fx F H σ fp D' r) : OutS K W fx F1 H1 σ1 fp1 D' r := by
  cases r with
  | nx env => exact fun F' H' σ' fp' P' x' => h F' H' σ' fp' (P.trans P') (x.trans x')
  | rt d env => exact fun F' H' σ' fp' v P' x' => h F' H' σ' fp' v (P.trans P') (x.trans x')
  | ro o env => exact fun F' H' σ' f1 f2 v P' x' => h F' H' σ' f1 f2 v (P.trans P') (x.trans x')
  | bk env => exact fun F' H' σ' fp' P' x' => h F' H' σ' fp' (P.trans P') (x.trans x')
  | ct env => exact fun F' H' σ' fp' P' x' => h F' H' σ' fp' (P.trans P') (x.trans x')
  | exc y env => exact fun F' H' σ' fp' c dd P' x' => h F' H' σ' fp' c dd (P.trans P') (x.trans x')
  | fail => exact h
def SnS (K : PySem.W.Frag) (W : WX) (fx : List Nat) (t : TS) (m : MS) : Prop :=
  ∀ (F H : Hp) (σ : L2.St) (env : DEnv) (fp : List Addr) (D' : Ends), Rel K F H σ env fp → OutS K W fx F H σ fp D' (m env) → t D' σ H
structure PDS (X : Cx) (W : WX) (fx : List Nat) (st : Stmt) (t : TS) (m : MS) : Prop where
  ps : PS X st t
  sn : SnS X.K W fx t m
structure PDB (X : Cx) (W : WX) (fx : List Nat) (st : List Stmt) (t : TS) (m : MS) : Prop where
  ps : PSs X st t
  sn : SnS X.K W fx t m
theorem Sn.goS {α β : Type} {K : PySem.W.Frag} {W : WX} {rel1 : Hp → α → β → Prop} {F0 : Hp} {t1 : L2.St → Hp → (β → Hp → Prop) → Prop} {m1 : DEnv → Rs α} (h1 : Sn K W rel1 F0 t1 m1)
    {F H : Hp} {σ : L2.St} {env : DEnv} {fp : List Addr} {fx : List Nat} {D' : Ends} {mk : α → DEnv → RS} {Q : β → Hp → Prop} (e : Ex F0 F) (R : Rel K F H σ env fp) (h : OutS K W fx F H σ fp D' ((m1 env).on mk))
    (hk : ∀ F' H' fp' env' a b, Po F H fp F' H' fp' → Rel K F' H' σ env' fp' → rel1 F' a b → OutS K W fx F' H' σ fp' D' (mk a env') → Q b H') : t1 σ H Q := by
  refine h1 F H σ env fp _ e R ?_
  generalize m1 env = r at h
  cases r with
  | ok a env1 => exact fun F' H' fp' b P R' r' => hk F' H' fp' env1 a b P R' r' (OutS.step P Fx.refl h)
  | exc x env1 => exact fun F' H' fp' c dd P R' z => h F' H' σ fp' c dd P Fx.refl R' z
  | fail => exact h
theorem SnO.goS {K : PySem.W.Frag} {W : WX} {t1 : TE} {m1 : MO} (h1 : SnO K W t1 m1)
    {F H : Hp} {σ : L2.St} {env : DEnv} {fp : List Addr} {fx : List Nat} {D' : Ends} {mk : O → DEnv → RS} {Q : VK} (R : Rel K F H σ env fp) (h : OutS K W fx F H σ fp D' ((m1 env).on mk))
    (hk : ∀ F' H' f1 f2 env' o v, Po F H fp F' H' (f1 ++ f2) → RelO K F' H' σ env' f1 f2 o v → OutS K W fx F' H' σ (f1 ++ f2) D' (mk o env') → Q v H') : t1 σ H Q := by
  refine h1 F H σ env fp _ R ?_
  generalize m1 env = r at h
  cases r with
  | ok a env1 => exact fun F' H' f1 f2 b P R' => hk F' H' f1 f2 env1 a b P R' (OutS.step P Fx.refl h)
  | exc x env1 => exact fun F' H' fp' c dd P R' z => h F' H' σ fp' c dd P Fx.refl R' z
  | fail => exact h
def mSkip : MS := fun env => .nx env
/-- ghost: slot i frozen -/
def mFrz (i : Nat) (m : MS) : MS := fun env => match env[i]? with
  | some (some o) => m (env.set i (some (.d (fz o))))
  | _ => .fail
section
variable {X : Cx} {W : WX} {fx : List Nat} {pos : Pos} {st : Stmt} {rest body : List Stmt} {t u : TS} {m n : MS} {e : Expr} {te : TE} {me : MD}
theorem sns_skip {K : PySem.W.Frag} : SnS K W fx tNext mSkip := fun F H σ env fp D' R h => h F H σ fp Po.refl Fx.refl R
theorem sns_seq {K : PySem.W.Frag} (h1 : SnS K W fx t m) (h2 : SnS K W fx u n) : SnS K W fx (tSeq t u) (mSeq m n) := by
  intro F H σ env fp D' R h
  refine h1 F H σ env fp _ R ?_
  unfold mSeq at h
  generalize m env = r at h
  cases r with
  | nx e1 => exact fun F' H' σ' fp' P x R' => h2 F' H' σ' e1 fp' D' R' (OutS.step P x h)
  | rt d e1 => exact h
  | ro o e1 => exact h
  | bk e1 => exact h
  | ct e1 => exact h
  | exc y e1 => exact h
  | fail => exact h
theorem pdb_nil : PDB X W fx [] tNext mSkip := ⟨pss_nil, sns_skip⟩
theorem pdb_cons (h1 : PDS X W fx st t m) (h2 : PDB X W fx rest u n) : PDB X W fx (st :: rest) (tSeq t u) (mSeq m n) := ⟨pss_cons h1.ps h2.ps, sns_seq h1.sn h2.sn⟩
theorem pdb_one (h1 : PDS X W fx st t m) : PDB X W fx [st] t m := ⟨pss_one h1.ps, h1.sn⟩
/-- name = value -/
theorem pds_set {i : Nat} {x : Str} {pos' : Pos} (hN : X.N.Nodup) (hi : X.N[i]? = some x) (hx : Loc X.env.scope x) (he : PD X W e te me) (hf : i ∉ fx := by decide) (hs : swapsWith e (some (.Name x pos')) pos.line X.env = pure false := by rfl) (hfn : X.fn x = true ∨ X.env.scope.names.lookup x = some .local := by first | exact .inl rfl | exact .inr rfl | assumption) :
    PDS X W fx (.Assign [.Name x pos'] e pos) (tAsg te (gName i)) (mSet i me) := by
  refine ⟨ps_set hN hi hx he.pe hs hfn, fun F H σ env fp D' R h => ?_⟩
  refine he.sn.goS ex_emp R h fun F1 H1 fp1 env1 d v P1 R1 d1 h1 => ?_
  obtain ⟨fp2, R2, sub⟩ := R1.set (i := i) d1
  exact h1 F1 H1 _ fp2 (Po.sub sub) (Fx.set hf) R2
theorem pds_setO {i : Nat} {x : Str} {pos' : Pos} {mo : MO} (hN : X.N.Nodup) (hi : X.N[i]? = some x) (hx : Loc X.env.scope x) (he : PDO X W e te mo) (hf : i ∉ fx := by decide) (hs : swapsWith e (some (.Name x pos')) pos.line X.env = pure false := by rfl) (hfn : X.fn x = true ∨ X.env.scope.names.lookup x = some .local := by first | exact .inl rfl | exact .inr rfl | assumption) :
    PDS X W fx (.Assign [.Name x pos'] e pos) (tAsg te (gName i)) (mSetO i mo) := by
  refine ⟨ps_set hN hi hx he.pe hs hfn, fun F H σ env fp D' R h => ?_⟩
  refine he.sn.goS R h fun F1 H1 f1 f2 env1 o v P1 R1 h1 => ?_
  by_cases hl : i < env1.length
  · rw [if_pos hl] at h1
    obtain ⟨fp2, R2, sub⟩ := R1.set hl
    exact h1 F1 H1 _ fp2 (Po.sub sub) (Fx.set hf) R2
  · rw [if_neg hl] at h1
    exact h1.elim
theorem pds_ret (he : PD X W e te me) : PDS X W fx (.Return (some e) pos) (tRet te) (mRet me) :=
  ⟨ps_ret he.pe, fun F H σ env fp D' R h => he.sn.goS ex_emp R h fun F1 H1 fp1 env1 d v P1 R1 d1 h1 => h1 F1 H1 σ fp1 v Po.refl Fx.refl R1 d1⟩
theorem pds_retO {mo : MO} (he : PDO X W e te mo) : PDS X W fx (.Return (some e) pos) (tRet te) (mRetO mo) :=
  ⟨ps_ret he.pe, fun F H σ env fp D' R h => he.sn.goS R h fun F1 H1 f1 f2 env1 o v P1 R1 h1 => h1 F1 H1 σ f1 f2 v Po.refl Fx.refl R1⟩
theorem pds_if {c : Expr} {a b : List Stmt} {tc : TT} {mc : MB} {ma mb : MS} (hc : PDT X W c tc mc) (ha : PDB X W fx a t ma) (hb : PDB X W fx b u mb) : PDS X W fx (.If c a b pos) (tIfS tc t u) (mIfS mc ma mb) := by
  refine ⟨ps_if hc.pt ha.ps hb.ps, fun F H σ env fp D' R h => ?_⟩
  refine hc.sn.goS ex_emp R h fun F1 H1 fp1 env1 x y P1 R1 d1 h1 => ?_
  have e' : x = y := d1
  subst e'
  cases x with
  | true => exact ha.sn F1 H1 σ env1 fp1 D' R1 h1
  | false => exact hb.sn F1 H1 σ env1 fp1 D' R1 h1
/-- ghost -/
theorem pds_frz {i : Nat} (h : PDS X W fx st t m) : PDS X W fx st (tFixS t) (mFrz i m) := by
  refine ⟨ps_fix h.ps, fun F H σ env fp D' R hq => ?_⟩
  unfold mFrz at hq
  split at hq
  · rename_i o ei
    obtain ⟨f0, nd, _, k⟩ := R.frz ei
    refine ⟨f0, nd, fun H2 l => ?_⟩
    obtain ⟨F', fp', R', P⟩ := k H2 l
    exact h.sn F' H2 σ _ fp' D' R' (OutS.step P Fx.refl hq)
  · exact hq.elim
end
def Itr (wk : Bool) (K : PySem.W.Frag) (F0 : Hp) (ds : List D) (J : It) : Prop := ∀ F H, Ex F0 F → FH F H → ∀ (i : Nat), (∀ d, ds[i]? = some d → J.go i H ∧ ∀ x H', J.yld i H x H' → ∃ F', Gr F H F' H' ∧ Denb wk K F' d x) ∧ (ds.length ≤ i → J.stop i H)
structure PDI (wk : Bool) (X : Cx) (W : WX) (tg iter : Expr) (wi : TI) (m : MA) : Prop where
  pi : PI X tg iter wi
  sn : Sn X.K W (Itr wk X.K) emp wi m
/-- targets: gs, the slots that it stores -/
def SnG (wk : Bool) (K : PySem.W.Frag) (gs : List Nat) (g : TG) (mg : D → DEnv → Option DEnv) : Prop :=
  ∀ (F H : Hp) (σ : L2.St) (env env' : DEnv) (fp : List Addr) (d : D) (v : V) (Q : L2.St → Hp → Prop), Rel K F H σ env fp → Denb wk K F d v → mg d env = some env' →
    (∀ F' H' σ' fp', Po F H fp F' H' fp' → Rel K F' H' σ' env' fp' → σ'.length = σ.length → (∀ j, j ∉ gs → σ'[j]? = σ[j]?) → Q σ' H') → g v σ H Q
structure PDG (wk : Bool) (X : Cx) (gs : List Nat) (tg : Expr) (g : TG) (mg : D → DEnv → Option DEnv) : Prop where
  pg : PG X tg g
  sn : SnG wk X.K gs g mg
theorem pdg_name {X : Cx} {i : Nat} {x : Str} {pos : Pos} (hN : X.N.Nodup) (hi : X.N[i]? = some x) (hx : Loc X.env.scope x) (hf : X.fn x = true ∨ X.env.scope.names.lookup x = some .local := by first | exact .inl rfl | exact .inr rfl | assumption) : PDG false X [i] (.Name x pos) (gName i) (gV i) := by
  refine ⟨pg_name hN hi hx hf, fun F H σ env env' fp d v Q R hd he k => ?_⟩
  cases he
  obtain ⟨fp2, R2, sub⟩ := R.set (i := i) (show Den X.K F d v from hd)
  exact k F H _ fp2 (Po.sub sub) R2 (by simp) fun j hj => List.getElem?_set_ne fun e => hj (by simp [e])
/-- a list of targets against a list of things -/
def SnGs (K : PySem.W.Frag) (gs : List Nat) (g : TGs) (mg : List D → DEnv → Option DEnv) : Prop :=
  ∀ (F H : Hp) (σ : L2.St) (env env' : DEnv) (fp : List Addr) (ds : List D) (vs : List V) (Q : L2.St → Hp → Prop), Rel K F H σ env fp → Dens K F ds vs → mg ds env = some env' →
    (∀ F' H' σ' fp', Po F H fp F' H' fp' → Rel K F' H' σ' env' fp' → σ'.length = σ.length → (∀ j, j ∉ gs → σ'[j]? = σ[j]?) → Q σ' H') → g vs σ H Q
structure PDGs (X : Cx) (gs : List Nat) (ts : List Expr) (g : TGs) (mg : List D → DEnv → Option DEnv) : Prop where
  pg : PGs X ts g
  sn : SnGs X.K gs g mg
def gVnil : List D → DEnv → Option DEnv := fun ds env => match ds with
  | [] => some env
  | _ => none
theorem pdgs_nil {X : Cx} : PDGs X [] [] gNil gVnil := by
  refine ⟨pgs_nil, fun F H σ env env' fp ds vs Q R hd he k => ?_⟩
  cases ds with
  | nil =>
    cases he
    exact ⟨hd, k F H σ fp Po.refl R rfl fun _ _ => rfl⟩
  | cons d r => cases he
theorem pdgs_cons {X : Cx} {gs hs : List Nat} {e : Expr} {es : List Expr} {t : TG} {u : TGs} {a : D → DEnv → Option DEnv} {b : List D → DEnv → Option DEnv} (h1 : PDG false X gs e t a) (h2 : PDGs X hs es u b)
    (hq : (assignEach (e :: es) X.env).map (·.2) = assign e X.env :: (assignEach es X.env).map (·.2) := by rfl) : PDGs X (gs ++ hs) (e :: es) (gCons t u) (gVcons a b) := by
  refine ⟨pgs_cons h1.pg h2.pg hq, fun F H σ env env' fp ds vs Q R hd he k => ?_⟩
  cases ds with
  | nil => cases he
  | cons d r =>
    obtain ⟨x, xs, rfl, q1, q2⟩ := hd
    unfold gVcons at he
    obtain ⟨e1, he1, he2⟩ := Option.bind_eq_some_iff.mp he
    refine ⟨x, xs, rfl, h1.sn F H σ env e1 fp d x _ R q1 he1 fun F1 H1 σ1 fp1 P1 R1 l1 k1 => ?_⟩
    refine h2.sn F1 H1 σ1 e1 env' fp1 r xs Q R1 (Dens.mono P1.f _ _ q2) he2 fun F2 H2 σ2 fp2 P2 R2 l2 k2 => ?_
    exact k F2 H2 σ2 fp2 (P1.trans P2) R2 (l2.trans l1) fun j hj => (k2 j fun z => hj (List.mem_append_right _ z)).trans (k1 j fun z => hj (List.mem_append_left _ z))
theorem pdg_tup {wk : Bool} {X : Cx} {gs : List Nat} {es : List Expr} {k : Nat} {t : TGs} {n : Nat} {b : List D → DEnv → Option DEnv} {pos : Pos} (hc : X.calm = true) (h : PDGs X gs es t b)
    (hn : (assignEach es X.env).length = n := by rfl) (hst : (assignEach es X.env).findIdx? (·.1) = none := by rfl) : PDG wk X gs (.Tuple es k pos) (gTup X.K n t) (gT n b) := by
  refine ⟨pg_tup hc h.pg hn hst, fun F H σ env env' fp d v Q R hd he kk => ?_⟩
  cases d with
  | tup ds =>
    obtain ⟨a, vs, rfl, q1, q2⟩ := hd.w.tup
    have he' : (if ds.length = n then b ds env else none) = some env' := he
    by_cases hl : ds.length = n
    · rw [if_pos hl] at he'
      exact ⟨a, vs, rfl, .inl (R.ex.rd q1), by rw [← Dens.length q2]; exact hl, h.sn F H σ env env' fp ds vs Q R q2 he' kk⟩
    · rw [if_neg hl] at he'
      cases he'
  | _ => cases he
/-- target = value -/
def mAsg (a : MD) (mg : D → DEnv → Option DEnv) : MS := fun env => (a env).on fun d e => match mg d e with
  | some e' => .nx e'
  | none => .fail
theorem sns_asg {wk : Bool} {K : PySem.W.Frag} {W : WX} {fx gs : List Nat} {te : TE} {me : MD} {g : TG} {mg : D → DEnv → Option DEnv} (he : Sn K W (Denb wk K) emp te me) (hg : SnG wk K gs g mg) (hd : (gs.all fun i => !fx.contains i) = true) : SnS K W fx (tAsg te g) (mAsg me mg) := by
  intro F H σ env fp D' R h
  refine he.goS ex_emp R h fun F1 H1 fp1 env1 d v P1 R1 d1 h1 => ?_
  cases hm : mg d env1 with
  | none =>
    rw [hm] at h1
    exact h1.elim
  | some e2 =>
    rw [hm] at h1
    refine hg F1 H1 σ env1 e2 fp1 d v _ R1 d1 hm fun F2 H2 σ2 fp2 P2 R2 l2 k2 => h1 F2 H2 σ2 fp2 P2 (fun j hj => k2 j fun z => ?_) R2
    have := List.all_eq_true.mp hd j z
    simp [hj] at this
theorem pds_asg {X : Cx} {W : WX} {fx gs : List Nat} {tg e : Expr} {te : TE} {me : MD} {g : TG} {mg : D → DEnv → Option DEnv} {pos : Pos} (he : PD X W e te me) (hg : PDG false X gs tg g mg) (hd : (gs.all fun i => !fx.contains i) = true := by decide)
    (hs : swapsWithSole [tg] e pos.line X.env = pure false := by rfl) (hw : swappedStores [tg] e X.env = pure none := by rfl) (h1 : (assignEach [tg] X.env).map (·.2) = [assign tg X.env] := by rfl) : PDS X W fx (.Assign [tg] e pos) (tAsg te g) (mAsg me mg) :=
  ⟨ps_asg he.pe hg.pg hs hw h1, sns_asg (wk := false) he.sn hg.sn hd⟩
theorem pds_asgw {X : Cx} {W : WX} {fx gs : List Nat} {tg e : Expr} {te : TE} {me : MD} {g : TG} {mg : D → DEnv → Option DEnv} {pos : Pos} (he : PDw X W e te me) (hg : PDG true X gs tg g mg) (hd : (gs.all fun i => !fx.contains i) = true := by decide)
    (hs : swapsWithSole [tg] e pos.line X.env = pure false := by rfl) (hw : swappedStores [tg] e X.env = pure none := by rfl) (h1 : (assignEach [tg] X.env).map (·.2) = [assign tg X.env] := by rfl) : PDS X W fx (.Assign [tg] e pos) (tAsg te g) (mAsg me mg) :=
  ⟨ps_asg he.pe hg.pg hs hw h1, sns_asg (wk := true) he.sn hg.sn hd⟩
theorem pds_for {wk : Bool} {X : Cx} {W : WX} {fx gs : List Nat} {tg iter : Expr} {body : List Stmt} {wi : TI} {g : TG} {tb : TS} {pos : Pos} {mi : MA} {mg : D → DEnv → Option DEnv} {mb : MS} (hp : PassesOwn (model X.prog X.w) X.A X.env X.xe) (hc : X.calm = true) (hi : PDI wk X W tg iter wi mi) (hg : PDG wk X gs tg g mg) (hb : PDB X W fx body tb mb)
    (hd : (gs.all fun i => !fx.contains i) = true := by decide) (hs : ∀ x, foldedSetIterable iter X.env x = pure x := by intro _; rfl) : PDS X W fx (.For tg iter body [] pos) (tFor wi g tb) (mFor mi mg mb) := by
  refine ⟨ps_for hp hc hi.pi hg.pg hb.ps hs, fun F H σ env fp D' R h => ?_⟩
  have hfx : ∀ j ∈ fx, j ∉ gs := fun j hj hg => by
    have := List.all_eq_true.mp hd j hg
    simp [hj] at this
  refine hi.sn.goS ex_emp R h fun F1 H1 fp1 env1 ds J P1 R1 d1 h1 => ?_
  refine ⟨fun i m σ H => m + i = ds.length ∧ ∃ F env fp, Ex F1 F ∧ Rel X.K F H σ env fp ∧ OutS X.K W fx F H σ fp D' (forM mg mb (ds.drop i) env), ⟨ds.length, rfl, F1, env1, fp1, Ex.refl _, R1, h1⟩, ?_⟩
  rintro i m σ2 H2 ⟨hm, F2, env2, fp2, e2, R2, h2⟩
  obtain ⟨go, stop⟩ := d1 F2 H2 e2 R2.ex i
  by_cases hlt : i < ds.length
  · have hdi : ds[i]? = some ds[i] := List.getElem?_eq_getElem hlt
    obtain ⟨go, yld⟩ := go _ hdi
    refine .inr ⟨go, fun σ' H' => ∃ F env fp, Ex F1 F ∧ Rel X.K F H' σ' env fp ∧ OutS X.K W fx F H' σ' fp D' (forM mg mb (ds.drop (i + 1)) env), fun σ' H' z => ⟨m - 1, by omega, by omega, z⟩, fun x H' hy => ?_⟩
    obtain ⟨F3, g3, dx⟩ := yld x H' hy
    have R3 := R2.grow g3
    rw [List.drop_eq_getElem_cons hlt] at h2
    have h3 := OutS.step (g3.po (fp := fp2)) Fx.refl h2
    cases ht : mg ds[i] env2 with
    | none =>
      unfold forM at h3
      rw [ht] at h3
      exact h3.elim
    | some e3 =>
      refine hg.sn F3 H' σ2 env2 e3 fp2 _ x _ R3 dx ht fun F4 H4 σ4 fp4 P4 R4 l4 k4 => ?_
      have x4 : Fx fx σ2 σ4 := fun j hj => k4 j (hfx j hj)
      have h4 := OutS.step P4 x4 h3
      refine hb.sn F4 H4 σ4 e3 fp4 _ R4 ?_
      unfold forM at h4
      rw [ht] at h4
      dsimp only at h4
      generalize mb e3 = r at h4
      have e3' : Ex F1 F4 := (e2.trans g3.f).trans P4.f
      cases r with
      | nx e5 => exact fun F5 H5 σ5 fp5 P5 x5 R5 => ⟨F5, e5, fp5, e3'.trans P5.f, R5, OutS.step P5 x5 h4⟩
      | ct e5 => exact fun F5 H5 σ5 fp5 P5 x5 R5 => ⟨F5, e5, fp5, e3'.trans P5.f, R5, OutS.step P5 x5 h4⟩
      | bk e5 => exact h4
      | rt d e5 => exact h4
      | ro o e5 => exact h4
      | exc y e5 => exact h4
      | fail => exact h4
  · refine .inl ⟨stop (by omega), ?_⟩
    rw [List.drop_of_length_le (by omega)] at h2
    exact h2 F2 H2 σ2 fp2 Po.refl Fx.refl R2
end DD
namespace DD
open PySem L2
section
variable {K : PySem.W.Frag} {F F' H H' : Hp} {σ σ' : L2.St} {env env' : DEnv} {fp f1 f2 f2' : List Addr} {o : O} {v : V}
/-- what is owned aside stays while the rest goes on -/
theorem RelO.frame (R : RelO K F H σ env f1 f2 o v) (P : Po F H f2 F' H' f2') (R' : Rel K F' H' σ' env' f2') : RelO K F' H' σ' env' f1 f2' o v ∧ Po F H (f1 ++ f2) F' H' (f1 ++ f2') := by
  have nd := List.nodup_append.mp R.nd
  have ne : ∀ a ∈ f1, a ∉ f2 := fun a ha hb => nd.2.2 a ha a hb rfl
  have dom := OwnAt.dom o v f1 R.own
  have ne' : ∀ a ∈ f1, a ∉ f2' := fun a ha hb => by
    rcases P.fresh a hb with z | z
    · exact ne a ha z
    · obtain ⟨u, hu⟩ := dom a ha
      rw [hu.e] at z
      cases z
  refine ⟨⟨R'.ex, R'.at_, OwnAt.mono P.f o v f1 (fun a ha => ?_) R.own, List.nodup_append.mpr ⟨nd.1, R'.nd, fun a ha b hb e => ne' a ha (e ▸ hb)⟩, fun a ha => ?_⟩, ⟨P.f, fun a u h n => P.keep a u h fun z => n (List.mem_append_right _ z), fun a ha => ?_, fun a u h1 h2 n => P.out a u h1 h2 fun z => n (List.mem_append_right _ z)⟩⟩
  · obtain ⟨u, hu⟩ := dom a ha
    rw [hu.e, (P.keep a u hu.e (ne a ha)).of (tb_tp hu.n)]
  · rcases List.mem_append.mp ha with z | z
    · obtain ⟨u, hu⟩ := dom a z
      exact P.out a u (R.out a (List.mem_append_left _ z)) hu (ne a z)
    · exact R'.out a z
  · rcases List.mem_append.mp ha with z | z
    · exact .inl (List.mem_append_left _ z)
    · exact (P.fresh a z).imp (List.mem_append_right _) id
theorem RelO.rel (R : RelO K F H σ env f1 f2 o v) : Rel K F H σ env f2 := ⟨R.ex, R.at_, (List.nodup_append.mp R.nd).2.1, fun a ha => R.out a (List.mem_append_right _ ha)⟩
theorem owns_map : ∀ {ds : List D} {vs : List V}, Dens K F ds vs → OwnsAt K F H (ds.map O.d) vs []
  | [], vs, h => ⟨h, rfl⟩
  | d :: ds, vs, ⟨x, xs, r, s, t⟩ => ⟨x, xs, [], [], r, rfl, ⟨s, rfl⟩, owns_map t⟩
end
theorem own_oL {K : PySem.W.Frag} {F H : Hp} {a : Addr} {xs : List V} {ds : List D} (h : H a = some (.lst xs)) (d : Dens K F ds xs) : OwnAt K F H (oL ds) (.ref a) [a] := ⟨a, xs, [], rfl, rfl, h, owns_map d⟩
/-- a new object that is owned -/
theorem Rel.newO {K : PySem.W.Frag} {F H : Hp} {σ : L2.St} {env : DEnv} {fp : List Addr} {p : Addr} {u : HO} {o : O} (R : Rel K F H σ env fp) (hp : H p = none) (ho : OwnAt K F (upd H p u) o (.ref p) [p]) :
    RelO K F (upd H p u) σ env [p] fp o (.ref p) ∧ Po F H fp F (upd H p u) ([p] ++ fp) := by
  have hF : F p = none := R.ex.no hp
  have hn : p ∉ fp := fun z => by
    obtain ⟨u, hu⟩ := R.at_.dom p z
    have hu := hu.e
    rw [hp] at hu
    cases hu
  refine ⟨⟨R.ex.upd hF, R.at_.mono (Ex.refl _) fun a ha => upd_ne fun z => hn (z ▸ ha), ho, List.nodup_cons.mpr ⟨hn, R.nd⟩, fun a ha => ?_⟩, ⟨Ex.refl _, fun a u h _ => .inl (Ex.new hp a u h), fun a ha => ?_, fun _ _ h _ _ => h⟩⟩
  · rcases List.mem_cons.mp ha with z | z
    · rw [z]
      exact hF
    · exact R.out a z
  · rcases List.mem_cons.mp ha with z | z
    · exact .inr (z ▸ hp)
    · exact .inl z
/-- an owned object written -/
theorem RelO.write {K : PySem.W.Frag} {F H : Hp} {σ : L2.St} {env : DEnv} {f1 f2 : List Addr} {o o' : O} {v : V} {a : Addr} {u : HO} (R : RelO K F H σ env f1 f2 o v) (ha : a ∈ f1) (ho : OwnAt K F (upd H a u) o' v f1) :
    RelO K F (upd H a u) σ env f1 f2 o' v ∧ Po F H (f1 ++ f2) F (upd H a u) (f1 ++ f2) := by
  have nd := List.nodup_append.mp R.nd
  have hF : F a = none := R.out a (List.mem_append_left _ ha)
  have ne : ∀ b ∈ f2, b ≠ a := fun b hb z => nd.2.2 a ha b hb z.symm
  refine ⟨⟨R.ex.upd hF, R.at_.mono (Ex.refl _) fun b hb => upd_ne (ne b hb), ho, R.nd, R.out⟩, ⟨Ex.refl _, fun b w h n => ?_, fun b hb => .inl hb, fun _ _ h _ _ => h⟩⟩
  · rw [upd_ne fun z => n (by rw [z]; exact List.mem_append_left _ ha)]
    exact .inl h
theorem wipe_get (σ : L2.St) : ∀ (vs : List Nat) (j : Nat), j < σ.length → (wipe σ vs)[j]? = if j ∈ vs then some none else σ[j]?
  | [], j, _ => by simp [wipe]
  | v :: vs, j, hj => by
    unfold wipe
    by_cases h : v = j
    · subst h
      rw [List.getElem?_set_self (by rw [wipe_length]; exact hj), if_pos List.mem_cons_self]
    · rw [List.getElem?_set_ne h, wipe_get σ vs j hj]
      have hj' : ¬ j = v := fun e => h e.symm
      by_cases h2 : j ∈ vs
      · rw [if_pos h2, if_pos (List.mem_cons_of_mem _ h2)]
      · rw [if_neg h2, if_neg (by simp [hj', h2])]
/-- the same but for the slots vs -/
theorem wipe_eq {σ τ : L2.St} {vs : List Nat} (hl : σ.length = τ.length) (h : ∀ (j : Nat), j ∉ vs → σ[j]? = τ[j]?) : wipe σ vs = wipe τ vs := by
  apply List.ext_getElem?
  intro j
  by_cases hj : j < τ.length
  · rw [wipe_get σ vs j (by omega), wipe_get τ vs j hj]
    by_cases hm : j ∈ vs
    · rw [if_pos hm, if_pos hm]
    · rw [if_neg hm, if_neg hm, h j hm]
  · rw [List.getElem?_eq_none (by rw [wipe_length]; omega), List.getElem?_eq_none (by rw [wipe_length]; omega)]
theorem wipe_wipe {σ : L2.St} {vs : List Nat} : wipe (wipe σ vs) vs = wipe σ vs := by
  refine wipe_eq (wipe_length _ _) fun j hj => ?_
  by_cases h : j < σ.length
  · rw [wipe_get σ vs j h, if_neg hj]
  · rw [List.getElem?_eq_none (by rw [wipe_length]; omega), List.getElem?_eq_none (by omega)]
section
variable {K : PySem.W.Frag} {F H : Hp} {σ τ : L2.St} {env : DEnv} {fp : List Addr}
/-- slots forgotten, whatever stands in them -/
theorem Rel.wipe (R : Rel K F H σ env fp) : ∀ (vs : List Nat), (∀ v ∈ vs, v < env.length) → ∃ fp', Rel K F H (L2.wipe σ vs) (wipeE env vs) fp' ∧ ∀ a ∈ fp', a ∈ fp
  | [], _ => ⟨fp, R, fun _ h => h⟩
  | v :: vs, hv => by
    obtain ⟨f1, R1, s1⟩ := R.wipe vs fun u hu => hv u (List.mem_cons_of_mem _ hu)
    obtain ⟨f2, R2, s2⟩ := R1.forget (i := v) (x := none) (by rw [wipeE_length]; exact hv v List.mem_cons_self)
    exact ⟨f2, R2, fun a ha => s1 a (s2 a ha)⟩
theorem envAt_swap : ∀ {σ τ : L2.St} {env : DEnv} {fp : List Addr}, σ.length = τ.length → (∀ (j : Nat) (o : O), env[j]? = some (some o) → σ[j]? = τ[j]?) → EnvAt K F H σ env fp → EnvAt K F H τ env fp
  | [], [], [], _, _, _, h => h
  | x :: σ, y :: τ, none :: env, fp, hl, hs, h => envAt_swap (σ := σ) (τ := τ) (env := env) (fp := fp) (by simpa using hl) (fun j o e => by simpa using hs (j + 1) o (by simpa using e)) h
  | x :: σ, y :: τ, some o :: env, fp, hl, hs, ⟨z, f1, f2, e1, e2, h1, h2⟩ => ⟨z, f1, f2, by
      have := hs 0 o rfl
      have e : x = y := by simpa using this
      rw [← e]; exact e1, e2, h1, envAt_swap (by simpa using hl) (fun j o e => by simpa using hs (j + 1) o (by simpa using e)) h2⟩
  | [], _ :: _, _, _, hl, _, _ => by simp at hl
  | _ :: _, [], _, _, hl, _, _ => by simp at hl
  | [], [], _ :: _, _, _, _, h => h.elim
  | _ :: _, _ :: _, [], _, _, _, h => h.elim
theorem Rel.swap (R : Rel K F H σ env fp) (hl : σ.length = τ.length) (hs : ∀ (j : Nat) (o : O), env[j]? = some (some o) → σ[j]? = τ[j]?) : Rel K F H τ env fp := ⟨R.ex, envAt_swap hl hs R.at_, R.nd, R.out⟩
end
theorem wipeE_get (env : DEnv) : ∀ (vs : List Nat) (j : Nat) (o : O), (wipeE env vs)[j]? = some (some o) → j ∉ vs ∧ env[j]? = some (some o)
  | [], j, o, h => ⟨by simp, h⟩
  | v :: vs, j, o, h => by
    unfold wipeE at h
    by_cases e : v = j
    · subst e
      by_cases hl : v < (wipeE env vs).length
      · rw [List.getElem?_set_self hl] at h
        cases h
      · rw [List.getElem?_eq_none (by simpa using hl)] at h
        cases h
    · rw [List.getElem?_set_ne e] at h
      obtain ⟨a, b⟩ := wipeE_get env vs j o h
      exact ⟨by simp only [List.mem_cons, not_or]; exact ⟨fun z => e z.symm, a⟩, b⟩
structure PDTs (X : Cx) (W : WX) (ifs : List Expr) (t : TT) (m : MB) : Prop where
  pt : PTs X ifs t
  sn : Sn X.K W relB emp t m
theorem pdts_nil {X : Cx} {W : WX} : PDTs X W [] tYes mYes := ⟨pts_nil, fun F H σ env fp Q _ R h => h F H fp true Po.refl R rfl⟩
theorem pdts_one {X : Cx} {W : WX} {c : Expr} {t : TT} {m : MB} (h : PDT X W c t m) : PDTs X W [c] t m := ⟨pts_one h.pt, h.sn⟩
theorem noD_bind {a : DEnv → Rs (List D)} : ∀ (env : DEnv) (o : O) (e : DEnv), ((a env).bind fun ys e => Rs.ok (oL ys) e) = .ok o e → noD o = true := by
  intro env o e h
  cases ha : a env with
  | ok ys e1 =>
    rw [ha, Rs.bind_ok] at h
    cases h
    exact noDs_map ys
  | exc x e1 => rw [ha] at h; cases h
  | fail => rw [ha] at h; cases h
def mLcO (it : MA) (tg : D → DEnv → Option DEnv) (tst : MB) (elt : MD) (vs : List Nat) : MO := fun env => (mLcs it tg tst elt vs env).bind fun ys e => .ok (oL ys) e
abbrev W0 : WX := fun _ _ _ _ => False
theorem sno_lc {wk : Bool} {K : PySem.W.Frag} {W : WX} {gs vs : List Nat} {wi : TI} {mi : MA} {g : TG} {mg : D → DEnv → Option DEnv} {tt : TT} {mt : MB} {te : TE} {me : MD} (hi : Sn K W (Itr wk K) emp wi mi) (hg : SnG wk K gs g mg) (ht : Sn K W0 relB emp tt mt) (he : Sn K W0 (Den K) emp te me)
    (hgs : gs.all (fun i => vs.contains i) = true) : SnO K W (tLc wi g tt te vs) (mLcO mi mg mt me vs) := by
  intro F H σ env fp Q R h
  have hsub : ∀ j, j ∉ vs → j ∉ gs := fun j hj hg => hj (by simpa using List.all_eq_true.mp hgs j hg)
  refine hi F H σ env fp _ ex_emp R ?_
  unfold mLcO mLcs at h
  generalize mi env = r at h
  cases r with
  | fail => exact h
  | exc x e1 => exact fun F' H' fp' c dd P R' z => h F' H' fp' c dd P R' z
  | ok ds e1 =>
    intro F1 H1 fp1 J P1 R1 hJ Dd hD
    have h1 := OutO.step P1 h
    rw [Rs.bind_ok] at h1
    by_cases hz : ds.length < sizeLine ∧ vs.all (· < e1.length) = true
    · rw [if_pos hz] at h1
      obtain ⟨hz, hvs⟩ := hz
      have hvs' : ∀ v ∈ vs, v < e1.length := fun v hv => by simpa using List.all_eq_true.mp hvs v hv
      obtain ⟨fp2, R2, s2⟩ := R1.wipe vs hvs'
      -- relative to σ itself
      have back : ∀ {F H : Hp} {e : DEnv} {fp : List Addr}, Rel K F H (wipe σ vs) (wipeE e vs) fp → Rel K F H σ (wipeE e vs) fp := fun {F H e fp} R => R.swap (wipe_length σ vs) fun j o q => by
        have hj := (wipeE_get e vs j o q).1
        by_cases hl : j < σ.length
        · rw [wipe_get σ vs j hl, if_neg hj]
        · rw [List.getElem?_eq_none (by rw [wipe_length]; omega), List.getElem?_eq_none (by omega)]
      obtain ⟨N0, N1⟩ := R2.newO (u := .lst []) (o := oL []) hD (own_oL upd_same dens_nil)
      refine ⟨fun i m H => m + i = ds.length ∧ ∃ F e fp acc dacc, Ex F1 F ∧ RelO K F H (wipe σ vs) (wipeE e vs) [Dd] fp (oL dacc) (.ref Dd) ∧ dacc.length ≤ i ∧ H Dd = some (.lst acc) ∧ Dens K F dacc acc ∧
        OutO K W F H σ ([Dd] ++ fp) Q ((lcM mg mt me vs (ds.drop i) (wipeE e vs)).bind fun ys e => .ok (oL (dacc ++ ys)) e), ⟨ds.length, rfl, F1, e1, fp2, [], [], Ex.refl _, N0, Nat.le_refl _, upd_same, dens_nil, ?_⟩, ?_⟩
      · refine OutO.step ((Po.sub s2).trans N1) ?_
        exact h1
      · rintro i m H2 ⟨hm, F2, e2, fp2, acc, dacc, x2, R2, hl, hacc, dac, h2⟩
        obtain ⟨go, stop⟩ := hJ F2 H2 x2 R2.ex i
        by_cases hlt : i < ds.length
        · have hdi : ds[i]? = some ds[i] := List.getElem?_eq_getElem hlt
          obtain ⟨go, yld⟩ := go _ hdi
          refine .inr ⟨go, fun H' => ∃ F e fp acc dacc, Ex F1 F ∧ RelO K F H' (wipe σ vs) (wipeE e vs) [Dd] fp (oL dacc) (.ref Dd) ∧ dacc.length ≤ i + 1 ∧ H' Dd = some (.lst acc) ∧ Dens K F dacc acc ∧
            OutO K W F H' σ ([Dd] ++ fp) Q ((lcM mg mt me vs (ds.drop (i + 1)) (wipeE e vs)).bind fun ys e => .ok (oL (dacc ++ ys)) e), fun H' z => ⟨m - 1, by omega, by omega, z⟩, fun x H' hy => ?_⟩
          obtain ⟨F3, g3, dx⟩ := yld x H' hy
          obtain ⟨R3, P3⟩ := R2.frame (g3.po (fp := fp2)) (R2.rel.grow g3)
          rw [List.drop_eq_getElem_cons hlt] at h2
          unfold lcM at h2
          cases hmg : mg ds[i] (wipeE e2 vs) with
          | none =>
            rw [hmg] at h2
            exact h2.elim
          | some e3 =>
            rw [hmg] at h2
            dsimp only at h2
            refine hg F3 H' (wipe σ vs) (wipeE e2 vs) e3 fp2 _ x _ R3.rel dx hmg fun F4 H4 σ4 fp4 P4 R4 l4 k4 => ?_
            have ew : wipe σ4 vs = wipe σ vs := by
              rw [wipe_eq l4 fun j hj => k4 j (hsub j hj), wipe_wipe]
            refine ⟨ew, ?_⟩
            obtain ⟨R4', P4'⟩ := R3.frame P4 R4
            refine ht F4 H4 σ4 e3 fp4 _ ex_emp R4 ?_
            have h4 := OutO.step (P3.trans P4') h2
            have hD4 : H4 Dd = some (.lst acc) := (P4.keep Dd _ ((g3.h Dd _ hacc).of) (fun z => (List.nodup_append.mp R3.nd).2.2 Dd (by simp) Dd z rfl)).of
            cases hmt : mt e3 with
            | fail =>
              rw [hmt] at h4
              exact h4.elim
            | exc y e4 =>
              rw [hmt] at h4
              exact h4.elim
            | ok b e4 =>
              rw [hmt] at h4
              intro F5 H5 fp5 b' P5 R5 eb
              have eb' : b = b' := eb
              subst eb'
              obtain ⟨R5', P5'⟩ := R4'.frame P5 R5
              have h5 := OutO.step P5' h4
              -- the rest of the turn: slots forgotten
              have fin : ∀ {F6 H6 : Hp} {e6 : DEnv} {fp6 : List Addr}, RelO K F6 H6 σ4 e6 [Dd] fp6 (oL dacc) (.ref Dd) → ∃ fp7, RelO K F6 H6 (wipe σ vs) (wipeE e6 vs) [Dd] fp7 (oL dacc) (.ref Dd) ∧ Po F6 H6 ([Dd] ++ fp6) F6 H6 ([Dd] ++ fp7) := fun {F6 H6 e6 fp6} R6 => by
                have l6 : ∀ v ∈ vs, v < e6.length := fun v hv => by
                  have a1 := hvs' v hv
                  have a2 := R6.rel.len
                  have a3 := R1.len
                  rw [l4, wipe_length] at a2
                  omega
                obtain ⟨fp7, R7, s7⟩ := R6.rel.wipe vs l6
                rw [ew] at R7
                exact ⟨fp7, R6.frame (Po.sub s7) R7⟩
              cases b with
              | false =>
                rw [if_neg Bool.false_ne_true]
                obtain ⟨fp7, R7, P7⟩ := fin R5'
                have hD5 : H5 Dd = some (.lst acc) := (P5.keep Dd _ hD4 (fun z => (List.nodup_append.mp R4'.nd).2.2 Dd (by simp) Dd z rfl)).of
                exact ⟨F5, e4, fp7, acc, dacc, ((x2.trans g3.f).trans P4.f).trans P5.f, R7, by omega, hD5, Dens.mono ((g3.f.trans P4.f).trans P5.f) _ _ dac, OutO.step P7 h5⟩
              | true =>
                rw [if_pos rfl]
                refine he F5 H5 σ4 e4 fp5 _ ex_emp R5 ?_
                cases hme : me e4 with
                | fail =>
                  dsimp only at h5
                  rw [hme] at h5
                  exact h5.elim
                | exc y e6 =>
                  dsimp only at h5
                  rw [hme] at h5
                  exact h5.elim
                | ok y e6 =>
                  dsimp only at h5
                  rw [hme] at h5
                  dsimp only at h5
                  intro F6 H6 fp6 yv P6 R6 dy
                  obtain ⟨R6', P6'⟩ := R5'.frame P6 R6
                  have h6 := OutO.step P6' h5
                  have hD5 : H5 Dd = some (.lst acc) := (P5.keep Dd _ hD4 (fun z => (List.nodup_append.mp R4'.nd).2.2 Dd (by simp) Dd z rfl)).of
                  have hD6 : H6 Dd = some (.lst acc) := (P6.keep Dd _ hD5 (fun z => (List.nodup_append.mp R5'.nd).2.2 Dd (by simp) Dd z rfl)).of
                  have dac6 : Dens K F6 dacc acc := Dens.mono (((g3.f.trans P4.f).trans P5.f).trans P6.f) _ _ dac
                  refine ⟨acc, hD6, by rw [← Dens.length dac]; omega, ?_⟩
                  obtain ⟨fp7, R7, P7⟩ := fin R6'
                  have dn : Dens K F6 (dacc ++ [y]) (acc ++ [yv]) := Dens.append dac6 (dens_cons dy dens_nil)
                  obtain ⟨R8, P8⟩ := R7.write (a := Dd) (u := .lst (acc ++ [yv])) (o' := oL (dacc ++ [y])) (by simp) (own_oL upd_same dn)
                  refine ⟨F6, e6, fp7, acc ++ [yv], dacc ++ [y], (((x2.trans g3.f).trans P4.f).trans P5.f).trans P6.f, R8, by simp; omega, upd_same, dn, ?_⟩
                  have h8 := OutO.step (P7.trans P8) h6
                  generalize lcM mg mt me vs (ds.drop (i + 1)) (wipeE e6 vs) = r at h8 ⊢
                  cases r with
                  | ok ys e9 =>
                    dsimp only [Rs.bind] at h8 ⊢
                    rw [List.append_assoc]
                    exact h8
                  | exc x9 e9 => exact h8
                  | fail => exact h8
        · refine .inl ⟨stop (by omega), ?_⟩
          rw [List.drop_of_length_le (by omega)] at h2
          have h3 : OutO K W F2 H2 σ ([Dd] ++ fp2) Q (.ok (oL dacc) (wipeE e2 vs)) := by
            have q : (lcM mg mt me vs [] (wipeE e2 vs)).bind (fun ys e => Rs.ok (oL (dacc ++ ys)) e) = Rs.ok (oL dacc) (wipeE e2 vs) := by
              unfold lcM
              rw [Rs.bind_ok, List.append_nil]
            rw [q] at h2
            exact h2
          exact h3 F2 H2 [Dd] fp2 (.ref Dd) Po.refl ⟨R2.ex, (back R2.rel).at_, R2.own, R2.nd, R2.out⟩
    · rw [if_neg hz] at h1
      exact h1.elim
theorem mLc_fz {it : MA} {tg : D → DEnv → Option DEnv} {tst : MB} {elt : MD} {vs : List Nat} : mFz (mLcO it tg tst elt vs) = mLc it tg tst elt vs := by
  funext env
  show ((mLcs it tg tst elt vs env).bind fun ys e => Rs.ok (oL ys) e).bind (fun o e => Rs.ok (fz o) e) = (mLcs it tg tst elt vs env).bind fun ys e => Rs.ok (.lst ys) e
  cases mLcs it tg tst elt vs env with
  | ok ys e => simp
  | exc x e => rfl
  | fail => rfl
section
variable {X : Cx} {W : WX} {gs : List Nat} {wi : TI} {mi : MA} {g : TG} {mg : D → DEnv → Option DEnv} {tt : TT} {mt : MB} {te : TE} {me : MD} {elt tg iter : Expr} {ifs : List Expr} {scope : Scope} {own : List (Str × Nat)} {pos : Pos}
/-- [elt for tg in iter if ..], owned -/
theorem pdo_lc {wk : Bool} (hc : X.calm = true) (hN : X.N.Nodup) (hi : PDI wk X W tg iter wi mi) (ok : BlkOk X.N X.env.scope scope own)
    (hg : ∀ (s : Shared) (H : Hp) (C : Addr) (cl : List (Str × Addr)) (fp : List Addr), PDG wk (X.blk s H scope (compEnvC scope cl C X.env) fp) gs tg g mg)
    (ht : ∀ (s : Shared) (H : Hp) (C : Addr) (cl : List (Str × Addr)) (fp : List Addr), PDTs (X.blk s H scope (compEnvC scope cl C X.env) fp) W0 ifs tt mt)
    (he : ∀ (s : Shared) (H : Hp) (C : Addr) (cl : List (Str × Addr)) (fp : List Addr), PD (X.blk s H scope (compEnvC scope cl C X.env) fp) W0 elt te me)
    (hgs : gs.all (fun i => (own.map (·.2)).contains i) = true := by decide) (hs : ∀ x, foldedSetIterable iter X.env x = pure x := by intro _; rfl) :
    PDO X W (.ListComp elt [⟨tg, iter, ifs, 0⟩] scope pos) (tLc wi g tt te (own.map (·.2))) (mLcO mi mg mt me (own.map (·.2))) :=
  ⟨pe_lc hc hN hi.pi ok (fun s H C cl fp => (hg s H C cl fp).pg) (fun s H C cl fp => (ht s H C cl fp).pt) (fun s H C cl fp => (he s H C cl fp).pe) hs,
    sno_lc hi.sn (hg X.s_0 X.H_0 0 [] []).sn (ht X.s_0 X.H_0 0 [] []).sn (he X.s_0 X.H_0 0 [] []).sn hgs⟩
theorem pd_lc {wk : Bool} (hc : X.calm = true) (hN : X.N.Nodup) (hi : PDI wk X W tg iter wi mi) (ok : BlkOk X.N X.env.scope scope own)
    (hg : ∀ (s : Shared) (H : Hp) (C : Addr) (cl : List (Str × Addr)) (fp : List Addr), PDG wk (X.blk s H scope (compEnvC scope cl C X.env) fp) gs tg g mg)
    (ht : ∀ (s : Shared) (H : Hp) (C : Addr) (cl : List (Str × Addr)) (fp : List Addr), PDTs (X.blk s H scope (compEnvC scope cl C X.env) fp) W0 ifs tt mt)
    (he : ∀ (s : Shared) (H : Hp) (C : Addr) (cl : List (Str × Addr)) (fp : List Addr), PD (X.blk s H scope (compEnvC scope cl C X.env) fp) W0 elt te me)
    (hgs : gs.all (fun i => (own.map (·.2)).contains i) = true := by decide) (hs : ∀ x, foldedSetIterable iter X.env x = pure x := by intro _; rfl) :
    PD X W (.ListComp elt [⟨tg, iter, ifs, 0⟩] scope pos) (tLc wi g tt te (own.map (·.2))) (mLc mi mg mt me (own.map (·.2))) := by
  have h := pd_fz0 (pdo_lc (W := W) (pos := pos) hc hN hi ok hg ht he hgs hs) (noD_bind)
  rw [mLc_fz] at h
  exact h
end
end DD
namespace DD
open PySem PySem.Spec PyProof.Rows L2
theorem Roam.in1 {k : Nat} {A : Around} (r : Roam (k + 1) A) : Roam k A.in1 := ⟨r.room.in1, r.gd⟩
theorem make_guards {A : Around} {C : Addr} {us : List Value} {kw : List (Str × Value)} : (A.under (.builtin "type.__call__" ⟨.ref C :: us, kw⟩)).guards = A.guards := by
  first | rfl | simp [Around.under, Code.guards, Code.isGuard, guardIds, pushGuards]
theorem Roam.make {k : Nat} {A : Around} (r : Roam (k + 1) A) (C : Addr) (us : List Value) (kw : List (Str × Value)) : Roam k (A.under (.builtin "type.__call__" ⟨.ref C :: us, kw⟩)) := ⟨r.room.make C us kw, make_guards.trans r.gd⟩
section
variable {X : Cx} {CX : CXT} {k : Nat} {f C p g a dx : Addr} {fs : List (Str × V)} {fd : FuncData} {ps : List Str} {sp : Sp} {E : L2.St → XK} {x m fl : Str} {pp pos apos : Pos} {e o : Expr} {es : List Expr} {ta : TE} {t : TA}
theorem run_fnG {pins : List (Addr × Obj)} {σ : L2.St} {H : Hp} {s : Shared} {Q : VK} {us : List Value} {vs : List V} (F : FnG X.prog X.w X.K X.mg X.base CX k f fd ps sp) (hr : Roam k X.A) (hb : Binds X.K fd ps []) (hx : PassesAt CX X σ (E σ))
    (I : Inv X pins σ H s) (r : Vals vs us) (h : sp vs H Q (E σ)) : wpAny (model X.prog X.w) X.A (call (.ref f) us) (EP X pins σ Q) X.xe s := by
  have hl : us.length = ps.length := by rw [← r.length]; exact F.len _ _ _ _ h
  have b := hb s us I.kIn (by rw [List.append_nil]; exact hl)
  rw [List.append_nil] at b
  refine wpAny_call (codeAny_mono (F.run X.A X.stack s H ⟨us, []⟩ us vs Q (E σ) hr I.env0 b r h) fun r s' hq => ?_)
  cases r with
  | error e => exact hx pins H s e s' I hq
  | ok fl =>
    cases fl with
    | ret u => exact I.after hq
    | next => exact False.elim hq
    | brk => exact False.elim hq
    | cont => exact False.elim hq
theorem pe_callG (F : FnG X.prog X.w X.K X.mg X.base CX k f fd ps sp) (hr : Roam k X.A) (hg : Gl X x) (hm : X.mg x = some (.ref f)) (hk : PySem.W.keepIn X.K (.ref f) = true) (hb : Binds X.K fd ps []) (hx : ∀ σ, PassesAt CX X σ (E σ))
    (ha : PA X (e :: es) t) (hdb : (x == ("__debug__" : Str)) = false := by decide) (he : starEach (e :: es) X.env = (false, eval e X.env) :: starEach es X.env := by rfl) (hpl : (backTo pos (starEach es X.env)).any (·.1) = false := by rfl) :
    PE X (.Call (.Name x pp) (e :: es) [] pos) (tCallS sp E t) := by
  refine ⟨fun pins s σ H Q I h => ?_⟩
  refine wpAny_Call_Name_kw (ld_glob I hg hm ?_ hdb)
  refine PySem.W.callWith_K (h₀ := X.base) I.ok.mod.kin hk (thn (ha.run pos pins s σ H _ I h) fun us s1 ⟨vs, H1, I1, r, q⟩ => ⟨I1.kIn, ?_⟩) he hpl
  exact run_fnG F hr hb (hx σ) I1 r q
/-- C(..) -/
def tMakeS (C : Addr) (sp : Sp) (E : L2.St → XK) (t : TA) : TE := fun σ H Q => t σ H fun vs H1 => ∀ x dx, H1 x = none → H1 dx = none → dx ≠ x →
  sp (.ref x :: vs) (upd (upd H1 dx (.own x)) x (.ins C dx [])) (fun v H2 => v = .non ∧ Q (.ref x) H2) (E σ)
theorem run_makeG {pins : List (Addr × Obj)} {σ : L2.St} {H : Hp} {s : Shared} {Q : VK} {us : List Value} {vs : List V} (M : Mk X.K C f) (F : FnG X.prog X.w X.K X.mg X.base CX k f fd ps sp) (hr : Roam (k + 1) X.A) (hb : Binds X.K fd ps [])
    (hx : PassesAt CX X σ (E σ)) (I : Inv X pins σ H s) (r : Vals vs us)
    (h : ∀ x dx, H x = none → H dx = none → dx ≠ x → sp (.ref x :: vs) (upd (upd H dx (.own x)) x (.ins C dx [])) (fun v H2 => v = .non ∧ Q (.ref x) H2) (E σ)) :
    wpAny (model X.prog X.w) X.A (call (.ref C) us) (EP X pins σ Q) X.xe s := by
  have hq := h (s.heap.objs.size + 1) s.heap.objs.size (I.hok.fresh (Nat.le_succ _)) (I.hok.fresh (Nat.le_refl _)) (Nat.ne_of_lt (Nat.lt_succ_self _))
  have I2 := Inv.made (C := C) I
  have r2 : Vals (V.ref (s.heap.objs.size + 1) :: vs) (Value.ref (s.heap.objs.size + 1) :: us) := .cons rfl r
  have hl : (Value.ref (s.heap.objs.size + 1) :: us).length = ps.length := by
    have e := r2.length
    rw [F.len _ _ _ _ hq] at e
    exact e.symm
  have b := hb _ (Value.ref (s.heap.objs.size + 1) :: us) I2.kIn (by rw [List.append_nil]; exact hl)
  rw [List.append_nil] at b
  refine wpAny_call (make_map (f := f) I.kIn M.makes M.init (beq_iff_eq.mp M.fn) (codeAny_mono (F.run _ X.stack _ _ ⟨Value.ref (s.heap.objs.size + 1) :: us, []⟩ (Value.ref (s.heap.objs.size + 1) :: us) _ _ (E σ) (hr.make C us [])
    (I2.env0.make C us []) b r2 hq) fun r s' hq' => ?_))
  cases r with
  | error e => exact hx pins _ _ e s' I2 hq'
  | ok fl =>
    cases fl with
    | ret u =>
      obtain ⟨v, H', I3, rv, ev, q3⟩ := I2.after hq'
      subst ev
      exact ⟨rv, ⟨V.ref (s.heap.objs.size + 1), H', I3, rfl, q3⟩⟩
    | next => exact False.elim hq'
    | brk => exact False.elim hq'
    | cont => exact False.elim hq'
theorem pe_makeG (M : Mk X.K C f) (F : FnG X.prog X.w X.K X.mg X.base CX k f fd ps sp) (hr : Roam (k + 1) X.A) (hg : Gl X x) (hm : X.mg x = some (.ref C)) (hb : Binds X.K fd ps []) (hx : ∀ σ, PassesAt CX X σ (E σ))
    (ha : PA X (e :: es) t) (hdb : (x == ("__debug__" : Str)) = false := by decide) (he : starEach (e :: es) X.env = (false, eval e X.env) :: starEach es X.env := by rfl) (hpl : (backTo pos (starEach es X.env)).any (·.1) = false := by rfl) :
    PE X (.Call (.Name x pp) (e :: es) [] pos) (tMakeS C sp E t) := by
  refine ⟨fun pins s σ H Q I h => ?_⟩
  refine wpAny_Call_Name_kw (ld_glob I hg hm ?_ hdb)
  refine PySem.W.callWith_K (h₀ := X.base) I.ok.mod.kin M.kp (thn (ha.run pos pins s σ H _ I h) fun us s1 ⟨vs, H1, I1, r, q⟩ => ⟨I1.kIn, ?_⟩) he hpl
  exact run_makeG M F hr hb (hx σ) I1 r q
end
section
variable {P : Program} {w : World} {K : PySem.W.Frag} {mg : Str → Option Value} {base : Heap} {x qual : Str} {params : Arguments} {body : List Stmt} {scope : Scope} {dvs : List V} {kws : List (Str × V)} {f : Addr} {fd : FuncData}
theorem FunD.okGc {CX : CXT} {N ps : List Str} {k : Nat} {sp : Sp} (F : FunD K x qual params body scope dvs kws f fd) (S : FnScope N ps scope) (len : ∀ vs H Q E, sp vs H Q E → vs.length = ps.length)
    (hbody : ∀ (cdv : Value), PySem.W.codeIn K cdv qual = true → fd.code = cdv → ∀ (A : Around) (outer : List PySem.Env) (s : Shared) (H : Hp) (vs : List V) (Q : VK) (E : XK), Roam k (A.deeper (envOfC qual scope s.heap.objs.size f cdv)) → sp vs H Q E →
      ∃ t, PSs (cxOf CX P w K mg base N qual scope f cdv A outer s H E) body t ∧ t { nx := fun _ H' => Q .non H', rt := Q } (L2.start N vs) H) : FnG P w K mg base CX (k + 1) f fd ps sp := by
  obtain ⟨oc, od, dV, kV, doc, pm, an, cdv, ct, osl, rfl, lk, hcd, _, _⟩ := F.ex
  refine ⟨len, fun A outer s H args us vs Q E hr e0 hb r hsp => ?_⟩
  have hl := len _ _ _ _ hsp
  have KX : K.In s.heap := e0.mod.kin.keeps fun b o e => (e0.bs b o e).1
  have lim : s.heap.NoLimit := e0.mod.nolimit.keeps fun b o e => (e0.bs b o e).1
  have hkind : ∀ y ∈ ps.zip us, scope.names.lookup y.1 = some .local ∨ (scope.names.lookup y.1 = some .cell ∧ ((cellsFrom (s.heap.objs.size + 1) scope.names []).lookup y.1).isSome = true) := fun ⟨n, v⟩ hy => by
    rcases S.par n (List.of_mem_zip hy).1 with q | q
    · exact .inl q
    · exact .inr ⟨q, PySem.W.cellsFrom_some _ _ _ (.inl q)⟩
  refine codeAny_call_function hr.room.depth (KX _ _ lk) rfl S.co S.gen rfl (PySem.W.codeRec_of KX hcd) (hb _ _ _ _ ?_)
  refine wpAny_newFunctionEnv_cells S.kind hkind fun env he s1 x => ?_
  subst he
  refine ⟨lim.keeps x.toInCall.keep, codeAny_func ?_⟩
  obtain ⟨t, ht, hq⟩ := hbody cdv hcd rfl A outer s H vs Q E (hr.deeper _) hsp
  have I : Inv (cxOf CX P w K mg base N qual scope f cdv A outer s H E) [] (L2.start N vs) H s1 := inv_start S hr.room.hd e0 hl r x
  refine wpAny_mono (ht.run [] s1 (L2.start N vs) H _ I hq) (fun fl s' hs => ?_) fun e s' hs => hs
  have fin : ∀ {σ' : L2.St} {H' : Hp} {v : V} {u : Value}, Inv (cxOf CX P w K mg base N qual scope f cdv A outer s H E) [] σ' H' s' → RelV v u → Q v H' → CE outer P w H s Q u s' :=
    fun {σ' H' v u} J rv q => ⟨v, H', J.os, J.bare, J.base, J.hok, rv, q⟩
  cases fl with
  | ret u =>
    obtain ⟨v, σ', H', J, rv, q⟩ := hs
    exact fin J rv q
  | next =>
    obtain ⟨σ', H', J, q⟩ := hs
    exact fin (v := V.non) (u := Value.none) J rfl q
  | brk =>
    obtain ⟨_, _, _, q⟩ := hs
    exact False.elim q
  | cont =>
    obtain ⟨_, _, _, q⟩ := hs
    exact False.elim q
theorem FunD.okG {CX : CXT} {N ps : List Str} {k : Nat} {sp : Sp} (F : FunD K x qual params body scope dvs kws f fd) (S : FnScope N ps scope) (len : ∀ vs H Q E, sp vs H Q E → vs.length = ps.length)
    (hbody : ∀ (cdv : Value) (A : Around) (outer : List PySem.Env) (s : Shared) (H : Hp) (vs : List V) (Q : VK) (E : XK), Roam k (A.deeper (envOfC qual scope s.heap.objs.size f cdv)) → sp vs H Q E →
      ∃ t, PSs (cxOf CX P w K mg base N qual scope f cdv A outer s H E) body t ∧ t { nx := fun _ H' => Q .non H', rt := Q } (L2.start N vs) H) : FnG P w K mg base CX (k + 1) f fd ps sp 
  := FunD.okGc F S len fun cdv _ _ A outer s H vs Q E hr h => hbody cdv A outer s H vs Q E hr h
end
theorem roam_caller {k : Nat} (h : Room k callerA) : Roam k callerA := ⟨h, rfl⟩
end DD
namespace DD
open PySem PySem.Spec PyProof.Rows L2
/-- what a def gives back: frozen, or fresh and owned -/
inductive RP where
  | ok (d : D) | oo (o : O) | exc (x : Exn) | fail
/-- of a def whose first argument is owned by the caller: and what became of it -/
inductive RI where
  | ok (d : D) (o : O) | oo (r : O) (o : O) | exc (x : Exn) (o : O) | fail
def OutP (K : PySem.W.Frag) (F H : Hp) (Q : VK) (E : XK) : RP → Prop
  | .ok d => ∀ F' H' v, Gr F H F' H' → Den K F' d v → Q v H'
  | .oo o => ∀ F' H' f1 v, Gr F H F' H' → OwnAt K F' H' o v f1 → f1.Nodup → (∀ a ∈ f1, F' a = none ∧ H a = none) → Q v H'
  | .exc x => ∀ F' H' c dd, Gr F H F' H' → ExAt K F' x c dd → E c dd H'
  | .fail => False
def OutI (K : PySem.W.Frag) (F H : Hp) (fp : List Addr) (v0 : V) (Q : VK) (E : XK) : RI → Prop
  | .ok d o => ∀ F' H' fp' v, Po F H fp F' H' fp' → FH F' H' → OwnAt K F' H' o v0 fp' → fp'.Nodup → (∀ a ∈ fp', F' a = none) → Den K F' d v → Q v H'
  | .oo r o => ∀ F' H' f1 fp' v, Po F H fp F' H' (f1 ++ fp') → FH F' H' → OwnAt K F' H' o v0 fp' → OwnAt K F' H' r v f1 → (f1 ++ fp').Nodup → (∀ a ∈ f1 ++ fp', F' a = none) → Q v H'
  | .exc x o => ∀ F' H' fp' c dd, Po F H fp F' H' fp' → FH F' H' → OwnAt K F' H' o v0 fp' → fp'.Nodup → (∀ a ∈ fp', F' a = none) → ExAt K F' x c dd → E c dd H'
  | .fail => False
def spP (K : PySem.W.Frag) (n : Nat) (f : List D → RP) : Sp := fun vs H Q E => vs.length = n ∧ ∃ F ds, FHK K F H ∧ Dens K F ds vs ∧ OutP K F H Q E (f ds)
def spI (K : PySem.W.Frag) (n : Nat) (f : O → List D → RI) : Sp := fun vs H Q E => vs.length = n + 1 ∧ ∃ F o ds fp v0 vr, vs = v0 :: vr ∧ FHK K F H ∧ OwnAt K F H o v0 fp ∧ fp.Nodup ∧ (∀ a ∈ fp, F a = none) ∧ Dens K F ds vr ∧ OutI K F H fp v0 Q E (f o ds)
def startE (nN : Nat) (os : List O) : DEnv := os.map some ++ List.replicate (nN - os.length) none
theorem envAt_none {K : PySem.W.Frag} {F H : Hp} (m : MkF K F) : ∀ k : Nat, EnvAt K F H (List.replicate k none) (List.replicate k none) []
  | 0 => ⟨rfl, m⟩
  | k + 1 => envAt_none m k
theorem envAt_start {K : PySem.W.Frag} {F H : Hp} (m : MkF K F) (k : Nat) : ∀ {os : List O} {vs : List V} {fp : List Addr}, OwnsAt K F H os vs fp → EnvAt K F H (vs.map some ++ List.replicate k none) (os.map some ++ List.replicate k none) fp
  | [], vs, fp, ⟨h, e⟩ => by
    subst h e
    exact envAt_none m k
  | o :: os, vs, fp, ⟨x, xs, f1, f2, r, s, h, t⟩ => by
    subst r
    exact ⟨x, f1, f2, rfl, s, h, envAt_start m k t⟩
def finP : RS → RP
  | .nx _ => .ok .non
  | .rt d _ => .ok d
  | .ro o _ => .oo o
  | .exc x _ => .exc x
  | _ => .fail
def mFun (nN n : Nat) (body : MS) : List D → RP := fun ds => if ds.length = n then finP (body (startE nN (ds.map .d))) else .fail
def finI : RS → RI
  | .nx e => (match e[0]? with
    | some (some o) => .ok .non o
    | _ => .fail)
  | .rt d e => (match e[0]? with
    | some (some o) => .ok d o
    | _ => .fail)
  | .ro r e => (match e[0]? with
    | some (some o) => .oo r o
    | _ => .fail)
  | .exc x e => (match e[0]? with
    | some (some o) => .exc x o
    | _ => .fail)
  | _ => .fail
def mFunI (nN n : Nat) (body : MS) : O → List D → RI := fun o ds => if ds.length = n then finI (body (startE nN (o :: ds.map .d))) else .fail
section
variable {P : Program} {w : World} {K : PySem.W.Frag} {mg : Str → Option Value} {base : Heap} {x qual : Str} {params : Arguments} {body : List Stmt} {scope : Scope} {f : Addr} {fd : FuncData} {N ps : List Str} {k : Nat} {m : MS}
theorem fnG_pure (F : FunD K x qual params body scope [] [] f fd) (S : FnScope N ps scope)
    (hbody : ∀ (cdv : Value) (A : Around) (outer : List PySem.Env) (s : Shared) (H : Hp) (E : XK), Roam k (A.deeper (envOfC qual scope s.heap.objs.size f cdv)) →
      Takes (cxOf (L2.CX P w) P w K mg base N qual scope f cdv A outer s H E) (fun c d _ H' => E c d H') → PassesOwn (model P w) (cxOf (L2.CX P w) P w K mg base N qual scope f cdv A outer s H E).A (cxOf (L2.CX P w) P w K mg base N qual scope f cdv A outer s H E).env (cxOf (L2.CX P w) P w K mg base N qual scope f cdv A outer s H E).xe →
      ∃ t, PDB (cxOf (L2.CX P w) P w K mg base N qual scope f cdv A outer s H E) (fun c d _ H' => E c d H') [] body t m) : FnG P w K mg base (L2.CX P w) (k + 1) f fd ps (spP K ps.length (mFun N.length ps.length m)) := by
  refine FunD.okG F S (fun vs H Q E h => h.1) fun cdv A outer s H vs Q E hr hsp => ?_
  obtain ⟨t, B⟩ := hbody cdv A outer s H E hr (takes_of rfl rfl rfl rfl) (passes_of rfl)
  refine ⟨t, B.ps, ?_⟩
  obtain ⟨hl, F0, ds, hF, hd, ho⟩ := hsp
  have hdl := Dens.length hd
  have R : Rel K F0 H (L2.start N vs) (startE N.length (ds.map .d)) [] := by
    refine ⟨hF.toFH, ?_, List.nodup_nil, fun a ha => by cases ha⟩
    have q := envAt_start hF.mks (N.length - vs.length) (owns_map (F := F0) (H := H) hd)
    unfold L2.start startE
    rw [List.length_map, hdl]
    exact q
  refine B.sn F0 H _ _ [] _ R ?_
  have ho' : OutP K F0 H Q E (finP (m (startE N.length (ds.map .d)))) := by
    unfold mFun at ho
    rw [if_pos (by rw [hdl]; exact hl)] at ho
    exact ho
  have gr : ∀ {F' H' : Hp} {σ' : L2.St} {e : DEnv} {fp' : List Addr}, Po F0 H [] F' H' fp' → FH F' H' → Gr F0 H F' H' := fun {F' H' σ' e fp'} P e => ⟨P.f, fun a o h => P.keep a o h (by simp), e, fun a o h1 h2 => P.out a o h1 h2 (by simp)⟩
  cases hr : m (startE N.length (ds.map .d)) with
  | nx e =>
    rw [hr] at ho'
    exact fun F' H' σ' fp' P _ R' => ho' F' H' .non (gr (σ' := σ') (e := e) P R'.ex) rfl
  | rt d e =>
    rw [hr] at ho'
    exact fun F' H' σ' fp' v P _ R' d' => ho' F' H' v (gr (σ' := σ') (e := e) P R'.ex) d'
  | ro o e =>
    rw [hr] at ho'
    refine fun F' H' σ' f1 f2 v P _ R' => ho' F' H' f1 v (gr (σ' := σ') (e := e) P R'.ex) R'.own (List.nodup_append.mp R'.nd).1 fun a ha => ⟨R'.out a (List.mem_append_left _ ha), ?_⟩
    rcases P.fresh a (List.mem_append_left _ ha) with z | z
    · cases z
    · exact z
  | bk e =>
    rw [hr] at ho'
    exact ho'.elim
  | ct e =>
    rw [hr] at ho'
    exact ho'.elim
  | exc y e =>
    rw [hr] at ho'
    exact fun F' H' σ' fp' c dd P _ R' z => ho' F' H' c dd (gr (σ' := σ') (e := e) P R'.ex) z
  | fail =>
    rw [hr] at ho'
    exact ho'.elim
theorem fn_pure (F : FunD K x qual params body scope [] [] f fd) (S : FnScope N ps scope) (hb : Binds K fd ps [])
    (hbody : ∀ (cdv : Value) (A : Around) (outer : List PySem.Env) (s : Shared) (H : Hp) (E : XK), Roam k (A.deeper (envOfC qual scope s.heap.objs.size f cdv)) →
      Takes (cxOf (L2.CX P w) P w K mg base N qual scope f cdv A outer s H E) (fun c d _ H' => E c d H') → PassesOwn (model P w) (cxOf (L2.CX P w) P w K mg base N qual scope f cdv A outer s H E).A (cxOf (L2.CX P w) P w K mg base N qual scope f cdv A outer s H E).env (cxOf (L2.CX P w) P w K mg base N qual scope f cdv A outer s H E).xe →
      ∃ t, PDB (cxOf (L2.CX P w) P w K mg base N qual scope f cdv A outer s H E) (fun c d _ H' => E c d H') [] body t m) : FnD P w K mg base (k + 1) f (spP K ps.length (mFun N.length ps.length m)) :=
  ⟨fd, ps, F.kp, hb, fnG_pure F S hbody⟩
theorem fn_ioC {p0 : Str} {pr : List Str} (F : FunD K x qual params body scope [] [] f fd) (S : FnScope N (p0 :: pr) scope) (hb : Binds K fd (p0 :: pr) [])
    (hbody : ∀ (cdv : Value), PySem.W.codeIn K cdv qual = true → fd.code = cdv → ∀ (A : Around) (outer : List PySem.Env) (s : Shared) (H : Hp) (E : XK), Roam k (A.deeper (envOfC qual scope s.heap.objs.size f cdv)) →
      Takes (cxOf (L2.CX P w) P w K mg base N qual scope f cdv A outer s H E) (fun c d _ H' => E c d H') → PassesOwn (model P w) (cxOf (L2.CX P w) P w K mg base N qual scope f cdv A outer s H E).A (cxOf (L2.CX P w) P w K mg base N qual scope f cdv A outer s H E).env (cxOf (L2.CX P w) P w K mg base N qual scope f cdv A outer s H E).xe →
      ∃ t, PDB (cxOf (L2.CX P w) P w K mg base N qual scope f cdv A outer s H E) (fun c d _ H' => E c d H') [0] body t m) : FnD P w K mg base (k + 1) f (spI K pr.length (mFunI N.length pr.length m)) := by
  refine ⟨fd, p0 :: pr, F.kp, hb, FunD.okGc F S (fun vs H Q E h => h.1) fun cdv hc1 hc2 A outer s H vs Q E hr hsp => ?_⟩
  obtain ⟨t, B⟩ := hbody cdv hc1 hc2 A outer s H E hr (takes_of rfl rfl rfl rfl) (passes_of rfl)
  refine ⟨t, B.ps, ?_⟩
  obtain ⟨hl, F0, o, ds, fp, v0, vr, rfl, hF, how, hnd, hout, hd, ho⟩ := hsp
  have hdl := Dens.length hd
  have R : Rel K F0 H (L2.start N (v0 :: vr)) (startE N.length (o :: ds.map .d)) fp := by
    refine ⟨hF.toFH, ?_, hnd, hout⟩
    have q := envAt_start hF.mks (N.length - (v0 :: vr).length) (os := o :: ds.map .d) (vs := v0 :: vr) (fp := fp) (K := K) (F := F0) (H := H) ⟨v0, vr, fp, [], rfl, by simp, how, owns_map hd⟩
    have e : (o :: ds.map O.d).length = (v0 :: vr).length := by simp [hdl]
    unfold L2.start startE
    rw [e]
    exact q
  refine B.sn F0 H _ _ fp _ R ?_
  have ho' : OutI K F0 H fp v0 Q E (finI (m (startE N.length (o :: ds.map .d)))) := by
    unfold mFunI at ho
    rw [if_pos (by rw [hdl]; simpa using hl)] at ho
    exact ho
  have s0 : (L2.start N (v0 :: vr))[0]? = some (some v0) := rfl
  -- the owned argument at the end
  have fin : ∀ {F' H' : Hp} {σ' : L2.St} {e : DEnv} {fp' : List Addr} {o' : O}, Fx [0] (L2.start N (v0 :: vr)) σ' → EnvAt K F' H' σ' e fp' → e[0]? = some (some o') → ∃ f0 fr, fp'.Perm (f0 ++ fr) ∧ OwnAt K F' H' o' v0 f0 := fun {F' H' σ' e fp' o'} x h he => by
    obtain ⟨f0, fr, p, g, _⟩ := h.at_ 0 (List.getElem?_eq_some_iff.mp he).1
    obtain ⟨v, e1, own⟩ := g o' he
    have e2 : σ'[0]? = some (some v0) := (x 0 (by simp)).trans s0
    rw [e1] at e2
    have e3 : v = v0 := Option.some.inj (Option.some.inj e2)
    exact ⟨f0, fr, p, e3 ▸ own⟩
  have sub : ∀ {F' H' : Hp} {fp' f0 fr : List Addr}, Po F0 H fp F' H' fp' → fp'.Perm (f0 ++ fr) → Po F0 H fp F' H' f0 := fun {F' H' fp' f0 fr} P p => ⟨P.f, P.keep, fun a ha => P.fresh a (p.symm.subset (List.mem_append_left _ ha)), P.out⟩
  cases hr : m (startE N.length (o :: ds.map .d)) with
  | nx e =>
    rw [hr] at ho'
    intro F' H' σ' fp' P x R'
    cases he : e[0]? with
    | none => rw [finI, he] at ho'; exact ho'.elim
    | some q =>
      cases q with
      | none => rw [finI, he] at ho'; exact ho'.elim
      | some o' =>
        rw [finI, he] at ho'
        obtain ⟨f0, fr, p, own⟩ := fin x R'.at_ he
        exact ho' F' H' f0 .non (sub P p) R'.ex own (List.nodup_append.mp (p.nodup_iff.mp R'.nd)).1 (fun a ha => R'.out a (p.symm.subset (List.mem_append_left _ ha))) rfl
  | rt d e =>
    rw [hr] at ho'
    intro F' H' σ' fp' v P x R' d'
    cases he : e[0]? with
    | none => rw [finI, he] at ho'; exact ho'.elim
    | some q =>
      cases q with
      | none => rw [finI, he] at ho'; exact ho'.elim
      | some o' =>
        rw [finI, he] at ho'
        obtain ⟨f0, fr, p, own⟩ := fin x R'.at_ he
        exact ho' F' H' f0 v (sub P p) R'.ex own (List.nodup_append.mp (p.nodup_iff.mp R'.nd)).1 (fun a ha => R'.out a (p.symm.subset (List.mem_append_left _ ha))) d'
  | ro r e =>
    rw [hr] at ho'
    intro F' H' σ' f1 f2 v P x R'
    cases he : e[0]? with
    | none => rw [finI, he] at ho'; exact ho'.elim
    | some q =>
      cases q with
      | none => rw [finI, he] at ho'; exact ho'.elim
      | some o' =>
        rw [finI, he] at ho'
        obtain ⟨f0, fr, p, own⟩ := fin x R'.at_ he
        have nd : (f1 ++ (f0 ++ fr)).Nodup := (List.Perm.append_left f1 p).nodup_iff.mp R'.nd
        have m1 : ∀ a ∈ f1 ++ f0, a ∈ f1 ++ f2 := fun a ha => by
          rcases List.mem_append.mp ha with z | z
          · exact List.mem_append_left _ z
          · exact List.mem_append_right _ (p.symm.subset (List.mem_append_left _ z))
        refine ho' F' H' f1 f0 v ⟨P.f, P.keep, fun a ha => P.fresh a (m1 a ha), P.out⟩ R'.ex own R'.own ?_ fun a ha => R'.out a (m1 a ha)
        rw [← List.append_assoc] at nd
        exact (List.nodup_append.mp nd).1
  | bk e =>
    rw [hr] at ho'
    exact ho'.elim
  | ct e =>
    rw [hr] at ho'
    exact ho'.elim
  | exc y e =>
    rw [hr] at ho'
    intro F' H' σ' fp' c dd P x R' z
    cases he : e[0]? with
    | none => rw [finI, he] at ho'; exact ho'.elim
    | some q =>
      cases q with
      | none => rw [finI, he] at ho'; exact ho'.elim
      | some o' =>
        rw [finI, he] at ho'
        obtain ⟨f0, fr, p, own⟩ := fin x R'.at_ he
        exact ho' F' H' f0 c dd (sub P p) R'.ex own (List.nodup_append.mp (p.nodup_iff.mp R'.nd)).1 (fun a ha => R'.out a (p.symm.subset (List.mem_append_left _ ha))) z
  | fail =>
    rw [hr] at ho'
    exact ho'.elim
theorem fn_io {p0 : Str} {pr : List Str} (F : FunD K x qual params body scope [] [] f fd) (S : FnScope N (p0 :: pr) scope) (hb : Binds K fd (p0 :: pr) [])
    (hbody : ∀ (cdv : Value) (A : Around) (outer : List PySem.Env) (s : Shared) (H : Hp) (E : XK), Roam k (A.deeper (envOfC qual scope s.heap.objs.size f cdv)) →
      Takes (cxOf (L2.CX P w) P w K mg base N qual scope f cdv A outer s H E) (fun c d _ H' => E c d H') → PassesOwn (model P w) (cxOf (L2.CX P w) P w K mg base N qual scope f cdv A outer s H E).A (cxOf (L2.CX P w) P w K mg base N qual scope f cdv A outer s H E).env (cxOf (L2.CX P w) P w K mg base N qual scope f cdv A outer s H E).xe →
      ∃ t, PDB (cxOf (L2.CX P w) P w K mg base N qual scope f cdv A outer s H E) (fun c d _ H' => E c d H') [0] body t m) : FnD P w K mg base (k + 1) f (spI K pr.length (mFunI N.length pr.length m)) := fn_ioC F S hb fun cdv _ _ A outer s H E hr tk ps => hbody cdv A outer s H E hr tk ps
end
def mCall (f : List D → RP) (m : MA) : MD := fun env => (m env).bind fun ds e => match f ds with
  | .ok d => .ok d e
  | .exc x => .exc x e
  | _ => .fail
def mCallO (f : List D → RP) (m : MA) : MO := fun env => (m env).bind fun ds e => match f ds with
  | .oo o => .ok o e
  | .exc x => .exc x e
  | _ => .fail
/-- the owned thing in slot i goes in -/
def mCallI (i : Nat) (f : O → List D → RI) (m : MA) : MD := fun env => match env[i]? with
  | some (some _) => (m env).bind fun ds e => (match e[i]? with
    | some (some o) => (match f o ds with
      | .ok d o' => .ok d (e.set i (some o'))
      | .exc x o' => .exc x (e.set i (some o'))
      | _ => .fail)
    | _ => .fail)
  | _ => .fail
section
variable {K : PySem.W.Frag} {W : WX} {t : TA} {m : MA} {n : Nat}
theorem sn_call {f : List D → RP} (h : Sn K W (Dens K) emp t m) (hn : ∀ ds env e, m env = .ok ds e → ds.length = n) : Sn K W (Den K) emp (tCallS (spP K n f) (WE W) t) (mCall f m) := by
  intro F H σ env fp Q _ R hq
  unfold mCall at hq
  refine h F H σ env fp _ ex_emp R ?_
  have hn' := hn
  cases hm : m env with
  | fail =>
    rw [hm] at hq
    exact hq
  | exc x e =>
    rw [hm] at hq
    exact hq
  | ok ds e =>
    rw [hm] at hq
    intro F1 H1 fp1 vs P1 R1 d1
    have h1 := Out.step P1 hq
    rw [Rs.bind_ok] at h1
    refine ⟨by rw [← Dens.length d1]; exact hn _ _ _ hm, F1, ds, R1.exk, d1, ?_⟩
    cases hf : f ds with
    | ok d =>
      rw [hf] at h1
      exact fun F' H' v g dd => h1 F' H' fp1 v g.po (R1.grow g) dd
    | exc x =>
      rw [hf] at h1
      exact fun F' H' c dd g z => h1 F' H' fp1 c dd g.po (R1.grow g) z
    | oo o =>
      rw [hf] at h1
      exact h1.elim
    | fail =>
      rw [hf] at h1
      exact h1.elim
theorem sno_call {f : List D → RP} (h : Sn K W (Dens K) emp t m) (hn : ∀ ds env e, m env = .ok ds e → ds.length = n) : SnO K W (tCallS (spP K n f) (WE W) t) (mCallO f m) := by
  intro F H σ env fp Q R hq
  unfold mCallO at hq
  refine h F H σ env fp _ ex_emp R ?_
  cases hm : m env with
  | fail =>
    rw [hm] at hq
    exact hq
  | exc x e =>
    rw [hm] at hq
    exact hq
  | ok ds e =>
    rw [hm] at hq
    intro F1 H1 fp1 vs P1 R1 d1
    have h1 := OutO.step P1 hq
    rw [Rs.bind_ok] at h1
    refine ⟨by rw [← Dens.length d1]; exact hn _ _ _ hm, F1, ds, R1.exk, d1, ?_⟩
    cases hf : f ds with
    | ok d =>
      rw [hf] at h1
      exact h1.elim
    | exc x =>
      rw [hf] at h1
      exact fun F' H' c dd g z => h1 F' H' fp1 c dd g.po (R1.grow g) z
    | oo o =>
      rw [hf] at h1
      intro F' H' f1 v g own nd ho
      have R2 := R1.grow g
      have dom : ∀ a ∈ fp1, a ∉ f1 := fun a ha hb => by
        obtain ⟨u, hu⟩ := R1.at_.dom a ha
        have hu := hu.e
        rw [(ho a hb).2] at hu
        cases hu
      refine h1 F' H' f1 fp1 v ⟨g.f, fun a u h _ => g.h a u h, fun a ha => ?_, fun a u e1 e2 _ => g.out a u e1 e2⟩ ⟨R2.ex, R2.at_, own, List.nodup_append.mpr ⟨nd, R2.nd, fun a ha b hb e => dom b hb (e ▸ ha)⟩, fun a ha => ?_⟩
      · rcases List.mem_append.mp ha with z | z
        · exact .inr (ho a z).2
        · exact .inl z
      · rcases List.mem_append.mp ha with z | z
        · exact (ho a z).1
        · exact R2.out a z
    | fail =>
      rw [hf] at h1
      exact h1.elim
theorem sn_callI {i : Nat} {f : O → List D → RI} (h : Sn K W (Dens K) emp t m) (hn : ∀ ds env e, m env = .ok ds e → ds.length = n) : Sn K W (Den K) emp (tCallS (spI K n f) (WE W) (tCons (tVar i) t)) (mCallI i f m) := by
  intro F H σ env fp Q _ R hq
  unfold mCallI at hq
  split at hq
  case h_2 => exact hq.elim
  rename_i o0 e0
  obtain ⟨v0, _, _, s0, _⟩ := R.split e0
  refine ⟨v0, s0, ?_⟩
  refine h F H σ env fp _ ex_emp R ?_
  cases hm : m env with
  | fail =>
    rw [hm] at hq
    exact hq
  | exc x e =>
    rw [hm] at hq
    exact hq
  | ok ds e =>
    rw [hm] at hq
    intro F1 H1 fp1 vs P1 R1 d1
    have h1 := Out.step P1 hq
    rw [Rs.bind_ok] at h1
    split at h1
    case h_2 => exact h1.elim
    rename_i o e1
    obtain ⟨v, f0, fr, s1, own, nd, out0, _, back, _⟩ := R1.split e1
    rw [s0] at s1
    have ev : v0 = v := Option.some.inj (Option.some.inj s1)
    subst ev
    refine ⟨by rw [List.length_cons, ← Dens.length d1, hn _ _ _ hm], F1, o, ds, f0, v0, vs, rfl, R1.exk, own, nd, out0, d1, ?_⟩
    cases hf : f o ds with
    | ok d o' =>
      rw [hf] at h1
      intro F' H' fp' v P ex own' ndn out' dd
      obtain ⟨fp2, R2, P2⟩ := back F' H' o' fp' P ex own' ndn out'
      exact h1 F' H' fp2 v P2 R2 dd
    | oo r o' =>
      rw [hf] at h1
      exact h1.elim
    | exc x o' =>
      rw [hf] at h1
      intro F' H' fp' c dd P ex own' ndn out' z
      obtain ⟨fp2, R2, P2⟩ := back F' H' o' fp' P ex own' ndn out'
      exact h1 F' H' fp2 c dd P2 R2 z
    | fail =>
      rw [hf] at h1
      exact h1.elim
end
/-- how many come from an argument list without a star -/
def ArgN (n : Nat) (m : MA) : Prop := ∀ ds env e, m env = .ok ds e → ds.length = n
theorem argN_nil : ArgN 0 mNil := fun ds env e h => by
  cases h
  rfl
theorem argN_cons {n : Nat} {a : MD} {m : MA} (h : ArgN n m) : ArgN (n + 1) (mCons a m) := fun ds env e hq => by
  unfold mCons at hq
  cases ha : a env with
  | fail => rw [ha] at hq; cases hq
  | exc x e1 => rw [ha] at hq; cases hq
  | ok d e1 =>
    rw [ha, Rs.bind_ok] at hq
    cases hm : m e1 with
    | fail => rw [hm] at hq; cases hq
    | exc x e2 => rw [hm] at hq; cases hq
    | ok xs e2 =>
      rw [hm, Rs.bind_ok] at hq
      cases hq
      rw [List.length_cons, h xs e1 _ hm]
/-- the def that the module's name x stands for -/
structure DefP (P : Program) (w : World) (K : PySem.W.Frag) (mg : Str → Option Value) (base : Heap) (k : Nat) (x : Str) (n : Nat) (f : List D → RP) : Prop where
  ex : ∃ g, mg x = some (.ref g) ∧ FnD P w K mg base k g (spP K n f)
structure DefI (P : Program) (w : World) (K : PySem.W.Frag) (mg : Str → Option Value) (base : Heap) (k : Nat) (x : Str) (n : Nat) (f : O → List D → RI) : Prop where
  ex : ∃ g, mg x = some (.ref g) ∧ FnD P w K mg base k g (spI K n f)
section
variable {X : Cx} {W : WX} {k n : Nat} {x : Str} {p pos : Pos} {e : Expr} {es : List Expr} {t : TA} {m : MA}
theorem pd_call {f : List D → RP} (G : DefP X.prog X.w X.K X.mg X.base k x n f) (hr : Roam k X.A) (hg : Gl X x) (tk : Takes X W) (hn : ArgN n m) (ha : PDA X W (e :: es) t m) (hdb : (x == ("__debug__" : Str)) = false := by decide)
    (he : starEach (e :: es) X.env = (false, eval e X.env) :: starEach es X.env := by rfl) (hpl : (backTo pos (starEach es X.env)).any (·.1) = false := by rfl) : PD X W (.Call (.Name x p) (e :: es) [] pos) (tCallS (spP X.K n f) (WE W) t) (mCall f m) := by
  obtain ⟨g, hm, fd, ps, kp, b, F⟩ := G.ex
  exact ⟨pe_callG F hr hg hm kp b (fun σ => passAt tk σ) ha.pa hdb he hpl, sn_call ha.sn hn⟩
theorem pdo_call {f : List D → RP} (G : DefP X.prog X.w X.K X.mg X.base k x n f) (hr : Roam k X.A) (hg : Gl X x) (tk : Takes X W) (hn : ArgN n m) (ha : PDA X W (e :: es) t m) (hdb : (x == ("__debug__" : Str)) = false := by decide)
    (he : starEach (e :: es) X.env = (false, eval e X.env) :: starEach es X.env := by rfl) (hpl : (backTo pos (starEach es X.env)).any (·.1) = false := by rfl) : PDO X W (.Call (.Name x p) (e :: es) [] pos) (tCallS (spP X.K n f) (WE W) t) (mCallO f m) := by
  obtain ⟨g, hm, fd, ps, kp, b, F⟩ := G.ex
  exact ⟨pe_callG F hr hg hm kp b (fun σ => passAt tk σ) ha.pa hdb he hpl, sno_call ha.sn hn⟩
theorem pd_callI {i : Nat} {y : Str} {py : Pos} {f : O → List D → RI} (G : DefI X.prog X.w X.K X.mg X.base k x n f) (hr : Roam k X.A) (hg : Gl X x) (tk : Takes X W) (hy : PE X (.Name y py) (tVar i)) (hn : ArgN n m) (ha : PDA X W es t m) (hdb : (x == ("__debug__" : Str)) = false := by decide)
    (he : starEach (.Name y py :: es) X.env = (false, eval (.Name y py) X.env) :: starEach es X.env := by rfl) (hpl : (backTo pos (starEach es X.env)).any (·.1) = false := by rfl) : PD X W (.Call (.Name x p) (.Name y py :: es) [] pos) (tCallS (spI X.K n f) (WE W) (tCons (tVar i) t)) (mCallI i f m) := by
  obtain ⟨g, hm, fd, ps, kp, b, F⟩ := G.ex
  exact ⟨pe_callG F hr hg hm kp b (fun σ => passAt tk σ) (pa_cons hy ha.pa he) hdb he hpl, sn_callI ha.sn hn⟩
end
end DD
namespace DD
open PySem PySem.Spec PyProof.Rows L2
theorem OpR.or {X : Cx} {f : Value → Value → Sem Value} {r1 r2 : R2} (h1 : OpR X f r1) (h2 : OpR X f r2) : OpR X f (fun x y H Q => r1 x y H Q ∨ r2 x y H Q) := by
  intro pins s σ H x y v u Q I rx ry h
  rcases h with h | h
  · exact h1 pins s σ H x y v u Q I rx ry h
  · exact h2 pins s σ H x y v u Q I rx ry h
theorem CallR.or {X : Cx} {f : Value} {r1 r2 : List V → Hp → VK → Prop} (h1 : CallR X f r1) (h2 : CallR X f r2) : CallR X f (fun xs H Q => r1 xs H Q ∨ r2 xs H Q) := by
  intro pins s σ H xs us Q I r h
  rcases h with h | h
  · exact h1 pins s σ H xs us Q I r h
  · exact h2 pins s σ H xs us Q I r h
theorem IxR.or {X : Cx} {r1 r2 : R2} (h1 : IxR X r1) (h2 : IxR X r2) : IxR X (fun x y H Q => r1 x y H Q ∨ r2 x y H Q) := by
  intro value slice pins s σ H x y v u Q I rx ry h hs
  rcases h with h | h
  · exact h1 value slice pins s σ H x y v u Q I rx ry h hs
  · exact h2 value slice pins s σ H x y v u Q I rx ry h hs
mutual
def toPy : D → Option PyData
  | .non => some .none
  | .bl b => some (.bool b)
  | .int i => some (.int i)
  | .str s => some (.str s)
  | .tup ds => (toPys ds).map .tuple
  | .lst ds => (toPys ds).map .list
  | .wtp ds => (toPys ds).map .tuple
  | _ => none
def toPys : List D → Option (List PyData)
  | [] => some []
  | d :: ds => (toPy d).bind fun x => (toPys ds).map fun xs => x :: xs
end
mutual
theorem toPy_dp {K : PySem.W.Frag} {F H : Hp} (e : FH F H) : ∀ (d : D) (v : V) (p : PyData), Den K F d v → toPy d = some p → Dp K H v p
  | .non, v, p, h, q => by
    have h' : v = .non := h
    cases q
    rw [h']
    exact .non
  | .bl b, v, p, h, q => by
    have h' : v = .bl b := h
    cases q
    rw [h']
    exact .bl b
  | .int i, v, p, h, q => by
    have h' : v = .int i := h
    cases q
    rw [h']
    exact .int i
  | .str s, v, p, h, q => by
    have h' : v = .str s := h
    cases q
    rw [h']
    exact .str s
  | .tup ds, v, p, ⟨a, o, vs, h1, h2, _, h3⟩, q => by
    obtain ⟨ps, q1, q2⟩ := Option.map_eq_some_iff.mp q
    rw [h1, ← q2]
    exact .tup (.inl (.inr ⟨o, e.at_ _ _ h2 rfl⟩)) (toPys_dp e ds vs ps h3 q1)
  | .lst ds, v, p, ⟨a, vs, h1, h2, h3⟩, q => by
    obtain ⟨ps, q1, q2⟩ := Option.map_eq_some_iff.mp q
    rw [h1, ← q2]
    exact .lst (.inl (e.rd h2)) (toPys_dp e ds vs ps h3 q1)
  | .wtp ds, v, p, ⟨a, vs, h1, h2, h3⟩, q => by
    obtain ⟨ps, q1, q2⟩ := Option.map_eq_some_iff.mp q
    rw [h1, ← q2]
    exact .tup (.inl (.inl (e.at_ _ _ h2 rfl))) (toPys_dp e ds vs ps h3 q1)
  | .dct ks ds, v, p, h, q => by cases q
  | .dtt ks ds, v, p, h, q => by cases q
  | .ins C ns ds, v, p, h, q => by cases q
  | .scr ns, v, p, h, q => by cases q
theorem toPys_dp {K : PySem.W.Frag} {F H : Hp} (e : FH F H) : ∀ (ds : List D) (vs : List V) (ps : List PyData), Dens K F ds vs → toPys ds = some ps → DpAll K H vs ps
  | [], vs, ps, h, q => by
    have h' : vs = [] := h
    cases q
    rw [h']
    exact .nil
  | d :: ds, vs, ps, ⟨x, xs, h1, h2, h3⟩, q => by
    obtain ⟨p, q1, q2⟩ := Option.bind_eq_some_iff.mp q
    obtain ⟨ps', q3, q4⟩ := Option.map_eq_some_iff.mp q2
    rw [h1, ← q4]
    exact .cons (toPy_dp e d x p h2 q1) (toPys_dp e ds xs ps' h3 q3)
end
/-- a value goes out as it is -/
theorem gr_val {K : PySem.W.Frag} {F H : Hp} {z : D} {v : V} {Q : VK} (e : FH F H) (h : Den K F z v) (k : ∀ F' H' c, Gr F H F' H' → Den K F' z c → Q c H') : Q v H := k F H v (Gr.refl e) h
def opI (g : Int → Int → D) : D → D → Option D
  | .int i, .int j => some (g i j)
  | _, _ => none
def opIc (c : Int → Int → Bool) (g : Int → Int → D) : D → D → Option D
  | .int i, .int j => if c i j = true then some (g i j) else none
  | _, _ => none
theorem opd_I {K : PySem.W.Frag} {g : Int → Int → D} {gv : Int → Int → V} (hg : ∀ F i j, Den K F (g i j) (gv i j)) : OpD K (rI0 gv) (opI g) := by
  intro F H x y a b z e hx hy hz Q k
  cases x <;> first | (cases hz; done) | skip
  cases y <;> first | (cases hz; done) | skip
  cases hz
  exact ⟨_, _, hx, hy, gr_val e (hg F _ _) k⟩
theorem opd_Ic {K : PySem.W.Frag} {c : Int → Int → Bool} {C : Int → Int → Prop} {g : Int → Int → D} {gv : Int → Int → V} (hc : ∀ i j, c i j = true → C i j) (hg : ∀ F i j, Den K F (g i j) (gv i j)) : OpD K (rI C gv) (opIc c g) := by
  intro F H x y a b z e hx hy hz Q k
  cases x <;> first | (cases hz; done) | skip
  cases y <;> first | (cases hz; done) | skip
  rename_i i j
  have hz' : (if c i j = true then some (g i j) else none) = some z := hz
  by_cases h : c i j = true
  · rw [if_pos h] at hz'
    cases hz'
    exact ⟨i, j, hx, hy, hc i j h, gr_val e (hg F _ _) k⟩
  · rw [if_neg h] at hz'
    cases hz'
def subD : D → D → Option D := opI fun i j => .int (i - j)
def mulD : D → D → Option D := opIc (fun i j => (decide (-(2 ^ 64) < i) && decide (i < 2 ^ 64)) || (decide (-(2 ^ 64) < j) && decide (j < 2 ^ 64))) fun i j => .int (i * j)
def divD : D → D → Option D := opIc (fun i j => decide (0 < j) && decide (j < 1073741824)) fun i j => .int (i / j)
def modD : D → D → Option D := opIc (fun i j => decide (0 < j)) fun i j => .int (i % j)
def powD : D → D → Option D := opIc (fun i j => decide (0 ≤ j) && decide (j ≤ 1000000) && decide (i.natAbs < 2 ^ 64)) fun i j => .int (i ^ j.toNat)
def ltD : D → D → Option D := opI fun i j => .bl (decide (i < j))
def leD : D → D → Option D := opI fun i j => .bl (decide (i ≤ j))
def gtD : D → D → Option D := opI fun i j => .bl (decide (j < i))
def geD : D → D → Option D := opI fun i j => .bl (decide (j ≤ i))
section
variable {K : PySem.W.Frag}
theorem opd_sub : OpD K (rI0 fun i j => .int (i - j)) subD := opd_I fun _ _ _ => rfl
theorem opd_mul : OpD K (rI CMul fun i j => .int (i * j)) mulD := opd_Ic (fun i j h => by
  simp only [Bool.or_eq_true, Bool.and_eq_true, decide_eq_true_eq] at h
  exact h) fun _ _ _ => rfl
theorem opd_div : OpD K (rI CDiv fun i j => .int (i / j)) divD := opd_Ic (fun i j h => by
  simp only [Bool.and_eq_true, decide_eq_true_eq] at h
  exact h) fun _ _ _ => rfl
theorem opd_mod : OpD K (rI (fun _ j => 0 < j) fun i j => .int (i % j)) modD := opd_Ic (fun i j h => by simpa using h) fun _ _ _ => rfl
theorem opd_pow : OpD K (rI CPow fun i j => .int (i ^ j.toNat)) powD := opd_Ic (fun i j h => by
  simp only [Bool.and_eq_true, decide_eq_true_eq] at h
  exact ⟨h.1.1, h.1.2, h.2⟩) fun _ _ _ => rfl
theorem opd_lt : OpD K (rI0 fun i j => .bl (decide (i < j))) ltD := opd_I fun _ _ _ => rfl
theorem opd_le : OpD K (rI0 fun i j => .bl (decide (i ≤ j))) leD := opd_I fun _ _ _ => rfl
theorem opd_gt : OpD K (rI0 fun i j => .bl (decide (j < i))) gtD := opd_I fun _ _ _ => rfl
theorem opd_ge : OpD K (rI0 fun i j => .bl (decide (j ≤ i))) geD := opd_I fun _ _ _ => rfl
def rCatE (K : PySem.W.Frag) : R2 := fun x y H Q => ∃ a b xs ys, x = .ref a ∧ y = .ref b ∧ SqT K H a xs ∧ SqT K H b ys ∧ xs.length + ys.length ≤ sizeLine ∧
  (xs = [] → Q (.ref b) H) ∧ (xs ≠ [] → ys = [] → Q (.ref a) H) ∧ (xs ≠ [] → ys ≠ [] → ∀ p o, H p = none → o.dict = none → Q (.ref p) (upd H p (.frz o (.tup (xs ++ ys)))))
theorem op_catE {X : Cx} : OpR X (binaryOp .Add) (rCatE X.K) := by
  intro pins s σ H x y v u Q I rx ry h
  obtain ⟨a, b, xs, ys, rfl, rfl, ha, hb, hz, q0, q1, q2⟩ := h
  cases rx
  cases ry
  obtain ⟨its, r1, p1, _⟩ := I.tuple ha
  obtain ⟨its2, r2, p2, _⟩ := I.tuple hb
  by_cases hx : xs = []
  · subst hx
    cases r1
    exact cat_tup0 p1 p2 ⟨.ref b, H, I, rfl, q0 rfl⟩
  · refine HT.cat_tup p1 p2 (fun z => hx (Vals.nil_iff r1 |>.mp z)) (fun z => ⟨.ref a, H, I, rfl, q1 hx (Vals.nil_iff r2 |>.mp z)⟩) (fun z => ?_) (by rw [← r1.length, ← r2.length]; exact hz)
    have hp := Heap.get?_push_size s.heap (o := { cls := .type "tuple", data := .seq (its ++ its2).toArray }) rfl
    have J := I.laid (t' := s.toks) (o := .frz { cls := .type "tuple", data := .seq (its ++ its2).toArray } (.tup (xs ++ ys))) (fun b u e => Heap.get?_push_of_some _ e) (Nat.le_refl _) ⟨hp, by rw [List.length_append]; exact hz, its ++ its2, r1.append r2, ⟨_, hp, rfl, _, rfl⟩⟩
    exact ⟨.ref _, _, J, rfl, q2 hx (fun w => z (Vals.nil_iff r2 |>.mpr w)) _ _ (I.hok.fresh (Nat.le_refl _)) rfl⟩
def rCatL : R2 := fun x y H Q => ∃ l b xs zs, x = .ref l ∧ y = .ref b ∧ Rd H l (.lst xs) ∧ Rd H b (.lst zs) ∧ xs.length + zs.length ≤ sizeLine ∧ ∀ p, H p = none → Q (.ref p) (upd H p (.lst (xs ++ zs)))
theorem op_catL {X : Cx} : OpR X (binaryOp .Add) rCatL := by
  intro pins s σ H x y v u Q I rx ry h
  obtain ⟨l, b, xs, zs, rfl, rfl, hH, hB, hz, q⟩ := h
  cases rx
  cases ry
  obtain ⟨_, its, n, r, e⟩ := hH.ok I.hok
  obtain ⟨_, its2, n2, r2, e2⟩ := hB.ok I.hok
  have l1 := r.length
  have l2 := r2.length
  refine PySem.P.add_list e e2 ?_ (by simp only [List.size_toArray]; omega)
  rw [show its.toArray ++ its2.toArray = (its ++ its2).toArray by simp]
  have hp := Heap.get?_push_size s.heap (o := { cls := .type "list", data := .seq (its ++ its2).toArray }) rfl
  have J := I.laid (t' := s.toks) (o := .lst (xs ++ zs)) (fun b u e => Heap.get?_push_of_some _ e) (Nat.le_refl _) ⟨by rw [List.length_append]; exact hz, its ++ its2, 0, r.append r2, hp⟩
  exact ⟨.ref _, _, J, rfl, q _ (I.hok.fresh (Nat.le_refl _))⟩
abbrev rAddD (K : PySem.W.Frag) : R2 := fun x y H Q => (rI0 (fun i j => .int (i + j)) x y H Q ∨ (∃ i j, x = .str i ∧ y = .str j ∧ i.length + j.length ≤ sizeLine ∧ Q (.str (i ++ j)) H)) ∨ (rCatL x y H Q ∨ rCatE K x y H Q)
theorem op_addD {X : Cx} : OpR X (binaryOp .Add) (rAddD X.K) := (op_add.or op_add_str).or (op_catL.or op_catE)
theorem opd_add : OpD K (rAddD K) addD := by
  intro F H x y a b z e hx hy hz Q k
  match x, y, hz with
  | .int i, .int j, hz =>
    cases hz
    exact .inl (.inl ⟨i, j, hx, hy, gr_val (z := .int (i + j)) e rfl k⟩)
  | .str i, .str j, hz =>
    by_cases h : i.length + j.length ≤ sizeLine
    · have hz' : some (D.str (i ++ j)) = some z := by rw [← hz]; exact (if_pos h).symm
      cases hz'
      exact .inl (.inr ⟨i, j, hx, hy, h, gr_val (z := .str (i ++ j)) e rfl k⟩)
    · have hz' : none = some z := by rw [← hz]; exact (if_neg h).symm
      cases hz'
  | .lst ds, .lst es, hz =>
    by_cases h : ds.length + es.length ≤ sizeLine
    · have hz' : some (D.lst (ds ++ es)) = some z := by rw [← hz]; exact (if_pos h).symm
      cases hz'
      obtain ⟨p, vs, rfl, h1, h2⟩ := hx
      obtain ⟨q, ws, rfl, h3, h4⟩ := hy
      refine .inr (.inl ⟨p, q, vs, ws, rfl, rfl, e.rd h1, e.rd h3, by rw [← Dens.length h2, ← Dens.length h4]; exact h, fun r hr => ?_⟩)
      obtain ⟨g, d⟩ := gr_lst e hr (Dens.append h2 h4)
      exact k _ _ _ g d
    · have hz' : none = some z := by rw [← hz]; exact (if_neg h).symm
      cases hz'
  | .tup ds, .tup es, hz =>
    by_cases h : ds.length + es.length ≤ sizeLine
    · have hz' : some (D.tup (ds ++ es)) = some z := by rw [← hz]; exact (if_pos h).symm
      cases hz'
      obtain ⟨p, o1, vs, rfl, h1, d1, h2⟩ := hx
      obtain ⟨q, o2, ws, rfl, h3, d3, h4⟩ := hy
      have l1 := Dens.length h2
      have l2 := Dens.length h4
      refine .inr (.inr ⟨p, q, vs, ws, rfl, rfl, .inl (.inr ⟨o1, e.at_ _ _ h1 rfl⟩), .inl (.inr ⟨o2, e.at_ _ _ h3 rfl⟩), by rw [← l1, ← l2]; exact h, fun z => ?_, fun _ z => ?_, fun _ _ r o hr ho => ?_⟩)
      · subst z
        have e0 : ds = [] := List.eq_nil_of_length_eq_zero l1
        subst e0
        exact k F H _ (Gr.refl e) ⟨q, o2, ws, rfl, h3, d3, h4⟩
      · subst z
        have e0 : es = [] := List.eq_nil_of_length_eq_zero l2
        subst e0
        rw [List.append_nil] at k
        exact k F H _ (Gr.refl e) ⟨p, o1, vs, rfl, h1, d1, h2⟩
      · obtain ⟨g, d⟩ := gr_tup e hr ho (Dens.append h2 h4)
        exact k _ _ _ g d
    · have hz' : none = some z := by rw [← hz]; exact (if_neg h).symm
      cases hz'
def eqvD (d e : D) : Option Bool := (toPy d).bind fun a => (toPy e).bind fun b => if SeqAt.shaped a = true ∧ SeqAt.shaped b = true then some (PyData.eqv a b) else none
def eqD (d e : D) : Option D := (eqvD d e).map .bl
def neD (d e : D) : Option D := (eqvD d e).map fun b => .bl (!b)
theorem eqvD_some {d e : D} {r : Bool} (h : eqvD d e = some r) : ∃ a b, toPy d = some a ∧ toPy e = some b ∧ SeqAt.shaped a = true ∧ SeqAt.shaped b = true ∧ r = PyData.eqv a b := by
  obtain ⟨a, h1, h⟩ := Option.bind_eq_some_iff.mp h
  obtain ⟨b, h2, h⟩ := Option.bind_eq_some_iff.mp h
  by_cases c : SeqAt.shaped a = true ∧ SeqAt.shaped b = true
  · rw [if_pos c] at h
    exact ⟨a, b, h1, h2, c.1, c.2, (Option.some.inj h).symm⟩
  · rw [if_neg c] at h
    cases h
theorem opd_eq : OpD K (rEqD K) eqD := by
  intro F H x y a b z e hx hy hz Q k
  obtain ⟨r, h1, h2⟩ := Option.map_eq_some_iff.mp hz
  obtain ⟨p, q, e1, e2, s1, s2, er⟩ := eqvD_some h1
  subst h2 er
  exact ⟨p, q, toPy_dp e x a p hx e1, toPy_dp e y b q hy e2, s1, s2, gr_val (z := .bl _) e rfl k⟩
theorem opd_ne : OpD K (rNeD K) neD := by
  intro F H x y a b z e hx hy hz Q k
  obtain ⟨r, h1, h2⟩ := Option.map_eq_some_iff.mp hz
  obtain ⟨p, q, e1, e2, s1, s2, er⟩ := eqvD_some h1
  subst h2 er
  exact ⟨p, q, toPy_dp e x a p hx e1, toPy_dp e y b q hy e2, s1, s2, gr_val (z := .bl _) e rfl k⟩
/-- in a list, a tuple of data; a text in a text -/
def inB (d e : D) : Option Bool := match d, e with
  | .str a, .str b => some (!(Builtin.Str.occurrences b a 0 b.length 1).isEmpty)
  | d, .lst es => (toPy d).bind fun a => (toPys es).bind fun bs => if SeqAt.shaped a = true ∧ SeqAt.shaped (.list bs) = true then some (bs.any fun z => PyData.eqv z a) else none
  | d, .tup es => (toPy d).bind fun a => (toPys es).bind fun bs => if SeqAt.shaped a = true ∧ SeqAt.shaped (.list bs) = true then some (bs.any fun z => PyData.eqv z a) else none
  | d, .wtp es => (toPy d).bind fun a => (toPys es).bind fun bs => if SeqAt.shaped a = true ∧ SeqAt.shaped (.list bs) = true then some (bs.any fun z => PyData.eqv z a) else none
  | _, _ => none
def inD (d e : D) : Option D := (inB d e).map .bl
def notInD (d e : D) : Option D := (inB d e).map fun b => .bl (!b)
def rInT (K : PySem.W.Frag) : R2 := fun x y H Q => ∃ d ds, Dp K H x d ∧ Dp K H y (.tuple ds) ∧ SeqAt.shaped d = true ∧ SeqAt.shaped (.list ds) = true ∧ Q (.bl (ds.any fun z => PyData.eqv z d)) H
def rNotInT (K : PySem.W.Frag) : R2 := fun x y H Q => ∃ d ds, Dp K H x d ∧ Dp K H y (.tuple ds) ∧ SeqAt.shaped d = true ∧ SeqAt.shaped (.list ds) = true ∧ Q (.bl (!ds.any fun z => PyData.eqv z d)) H
theorem op_inT {X : Cx} (hu : X.A.units + 65 < cLine) : OpR X (compareOp .In) (rInT X.K) := by
  intro pins s σ H x y v u Q I rx ry h
  obtain ⟨d, ds, hd, he, sd, se, q⟩ := h
  obtain ⟨as, r1⟩ := Dp.reads I d x v hd rx
  obtain ⟨bs, r2⟩ := Dp.reads I (.tuple ds) y u he ry
  exact SeqAt.in_tuple_reads r2 r1 (SeqAt.canLay_of_shaped se) (SeqAt.canLay_of_shaped sd) (room_in_shaped sd hu) ⟨.bl _, H, I, rfl, q⟩
theorem op_notInT {X : Cx} (hu : X.A.units + 65 < cLine) : OpR X (compareOp .NotIn) (rNotInT X.K) := by
  intro pins s σ H x y v u Q I rx ry h
  obtain ⟨d, ds, hd, he, sd, se, q⟩ := h
  obtain ⟨as, r1⟩ := Dp.reads I d x v hd rx
  obtain ⟨bs, r2⟩ := Dp.reads I (.tuple ds) y u he ry
  exact SeqAt.notIn_tuple_reads r2 r1 (SeqAt.canLay_of_shaped se) (SeqAt.canLay_of_shaped sd) (room_in_shaped sd hu) ⟨.bl _, H, I, rfl, q⟩
abbrev rInB (K : PySem.W.Frag) : R2 := fun x y H Q => (rInD K x y H Q ∨ rInT K x y H Q) ∨ (∃ i j, x = .str i ∧ y = .str j ∧ Q (.bl (!(Builtin.Str.occurrences j i 0 j.length 1).isEmpty)) H)
abbrev rNotInB (K : PySem.W.Frag) : R2 := fun x y H Q => (rNotInD K x y H Q ∨ rNotInT K x y H Q) ∨ (∃ i j, x = .str i ∧ y = .str j ∧ Q (.bl (!(!(Builtin.Str.occurrences j i 0 j.length 1).isEmpty))) H)
theorem op_inB {X : Cx} (hu : X.A.units + 65 < cLine) : OpR X (compareOp .In) (rInB X.K) := ((op_inD hu).or (op_inT hu)).or op_in_str
theorem op_notInB {X : Cx} (hu : X.A.units + 65 < cLine) : OpR X (compareOp .NotIn) (rNotInB X.K) := ((op_notInD hu).or (op_notInT hu)).or op_notin_str
theorem inB_some {d e : D} {r : Bool} (h : inB d e = some r) : (∃ a b, d = .str a ∧ e = .str b ∧ r = !(Builtin.Str.occurrences b a 0 b.length 1).isEmpty) ∨
    ∃ es a bs, (e = .lst es ∨ e = .tup es ∨ e = .wtp es) ∧ toPy d = some a ∧ toPys es = some bs ∧ SeqAt.shaped a = true ∧ SeqAt.shaped (.list bs) = true ∧ r = bs.any fun z => PyData.eqv z a := by
  have key : ∀ es : List D, ((toPy d).bind fun a => (toPys es).bind fun bs => if SeqAt.shaped a = true ∧ SeqAt.shaped (.list bs) = true then some (bs.any fun z => PyData.eqv z a) else none) = some r →
      ∃ a bs, toPy d = some a ∧ toPys es = some bs ∧ SeqAt.shaped a = true ∧ SeqAt.shaped (.list bs) = true ∧ r = bs.any fun z => PyData.eqv z a := fun es h => by
    obtain ⟨a, h1, h⟩ := Option.bind_eq_some_iff.mp h
    obtain ⟨bs, h2, h⟩ := Option.bind_eq_some_iff.mp h
    by_cases c : SeqAt.shaped a = true ∧ SeqAt.shaped (.list bs) = true
    · rw [if_pos c] at h
      exact ⟨a, bs, h1, h2, c.1, c.2, (Option.some.inj h).symm⟩
    · rw [if_neg c] at h
      cases h
  unfold inB at h
  split at h
  · rename_i a b
    exact .inl ⟨a, b, rfl, rfl, (Option.some.inj h).symm⟩
  · obtain ⟨a, bs, q⟩ := key _ h
    exact .inr ⟨_, a, bs, .inl rfl, q⟩
  · obtain ⟨a, bs, q⟩ := key _ h
    exact .inr ⟨_, a, bs, .inr (.inl rfl), q⟩
  · obtain ⟨a, bs, q⟩ := key _ h
    exact .inr ⟨_, a, bs, .inr (.inr rfl), q⟩
  · cases h
theorem opd_in : OpD K (rInB K) inD := by
  intro F H x y a b z e hx hy hz Q k
  obtain ⟨r, h1, h2⟩ := Option.map_eq_some_iff.mp hz
  subst h2
  rcases inB_some h1 with ⟨i, j, rfl, rfl, er⟩ | ⟨es, p, bs, he, q1, q2, s1, s2, er⟩
  · subst er
    exact .inr ⟨i, j, hx, hy, gr_val (z := .bl _) e rfl k⟩
  · subst er
    rcases he with rfl | rfl | rfl
    · exact .inl (.inl ⟨p, bs, toPy_dp e x a p hx q1, toPy_dp e (.lst es) b (.list bs) hy (by simp [toPy, q2]), s1, s2, gr_val (z := .bl _) e rfl k⟩)
    · exact .inl (.inr ⟨p, bs, toPy_dp e x a p hx q1, toPy_dp e (.tup es) b (.tuple bs) hy (by simp [toPy, q2]), s1, s2, gr_val (z := .bl _) e rfl k⟩)
    · exact .inl (.inr ⟨p, bs, toPy_dp e x a p hx q1, toPy_dp e (.wtp es) b (.tuple bs) hy (by simp [toPy, q2]), s1, s2, gr_val (z := .bl _) e rfl k⟩)
theorem opd_notIn : OpD K (rNotInB K) notInD := by
  intro F H x y a b z e hx hy hz Q k
  obtain ⟨r, h1, h2⟩ := Option.map_eq_some_iff.mp hz
  subst h2
  rcases inB_some h1 with ⟨i, j, rfl, rfl, er⟩ | ⟨es, p, bs, he, q1, q2, s1, s2, er⟩
  · subst er
    exact .inr ⟨i, j, hx, hy, gr_val (z := .bl _) e rfl k⟩
  · subst er
    rcases he with rfl | rfl | rfl
    · exact .inl (.inl ⟨p, bs, toPy_dp e x a p hx q1, toPy_dp e (.lst es) b (.list bs) hy (by simp [toPy, q2]), s1, s2, gr_val (z := .bl _) e rfl k⟩)
    · exact .inl (.inr ⟨p, bs, toPy_dp e x a p hx q1, toPy_dp e (.tup es) b (.tuple bs) hy (by simp [toPy, q2]), s1, s2, gr_val (z := .bl _) e rfl k⟩)
    · exact .inl (.inr ⟨p, bs, toPy_dp e x a p hx q1, toPy_dp e (.wtp es) b (.tuple bs) hy (by simp [toPy, q2]), s1, s2, gr_val (z := .bl _) e rfl k⟩)
theorem den_non {F : Hp} : ∀ {d : D} {v : V}, Den K F d v → decide (v = .non) = isNonB d
  | .non, v, h => by
    have h' : v = .non := h
    subst h'
    rfl
  | .bl b, v, h => by
    have h' : v = .bl b := h
    subst h'
    rfl
  | .int i, v, h => by
    have h' : v = .int i := h
    subst h'
    rfl
  | .str s, v, h => by
    have h' : v = .str s := h
    subst h'
    rfl
  | .tup _, v, ⟨a, _, _, h, _⟩ => by subst h; rfl
  | .lst _, v, ⟨a, _, h, _⟩ => by subst h; rfl
  | .wtp _, v, ⟨a, _, h, _⟩ => by subst h; rfl
  | .dct _ _, v, ⟨a, _, _, h, _⟩ => by subst h; rfl
  | .dtt _ _, v, ⟨a, _, _, h, _⟩ => by subst h; rfl
  | .ins _ _ _, v, ⟨a, _, _, h, _⟩ => by subst h; rfl
  | .scr _, v, ⟨a, h, _⟩ => by subst h; rfl
theorem opd_isNot : OpD K (fun x y H Q => y = .non ∧ Q (.bl (!decide (x = .non))) H) isNotD := by
  intro F H x y a b z e hx hy hz Q k
  cases y <;> first | (cases hz; done) | skip
  cases hz
  refine ⟨hy, ?_⟩
  rw [den_non hx]
  exact gr_val (z := .bl _) e rfl k
end
end DD
namespace DD
open PySem PySem.Spec PyProof.Rows L2
section
variable {K : PySem.W.Frag}
abbrev rGetD (K : PySem.W.Frag) : R2 := fun x y H Q => (rIxL K x y H Q ∨ rIxT K x y H Q) ∨ rIxS x y H Q
theorem ix_getD {X : Cx} : IxR X (rGetD X.K) := (ix_list.or ix_tup).or ix_str
theorem atI_map {α β : Type} (f : α → β) (xs : List α) (i : Int) : atI (xs.map f) i = (atI xs i).map f := by
  unfold atI
  rw [List.length_map]
  cases ixN xs.length i with
  | none => rfl
  | some j => simp
theorem opd_get : OpD K (rGetD K) getD := by
  intro F H x y a b z e hx hy hz Q k
  match x, y, hz with
  | .lst ds, .int i, hz =>
    obtain ⟨p, vs, rfl, h1, h2⟩ := hx
    obtain ⟨v, h3, h4⟩ := Dens.at_ h2 hz
    exact .inl (.inl ⟨p, vs, i, v, rfl, hy, .inl (e.rd h1), h3, gr_val e h4 k⟩)
  | .tup ds, .int i, hz =>
    obtain ⟨p, o, vs, rfl, h1, _, h2⟩ := hx
    obtain ⟨v, h3, h4⟩ := Dens.at_ h2 hz
    exact .inl (.inr ⟨p, vs, i, v, rfl, hy, .inl (.inr ⟨o, e.at_ _ _ h1 rfl⟩), h3, gr_val e h4 k⟩)
  | .scr ns, .int i, hz =>
    obtain ⟨p, rfl, h1⟩ := hx
    obtain ⟨n, h2, rfl⟩ := Option.map_eq_some_iff.mp hz
    exact .inl (.inl ⟨p, _, i, .int n, rfl, hy, e.l h1, by rw [atI_map, h2]; rfl, gr_val (z := .int n) e rfl k⟩)
  | .str s, .int i, hz =>
    by_cases h : s.length ≤ sizeLine
    · have hz' : (atI s.cps.toList i).map (fun c => D.str ⟨#[c]⟩) = some z := by rw [← hz]; exact (if_pos h).symm
      obtain ⟨c, h2, rfl⟩ := Option.map_eq_some_iff.mp hz'
      exact .inr ⟨s, i, c, hx, hy, h, h2, gr_val (z := .str ⟨#[c]⟩) e rfl k⟩
    · have hz' : none = some z := by rw [← hz]; exact (if_neg h).symm
      cases hz'
/-- a part of a slice: left out, or an int -/
structure PDPart (X : Cx) (W : WX) (e : Option Expr) (t : TO) (m : DEnv → Rs (Option Int)) : Prop where
  po : PO X e t
  sn : Sn X.K W (fun _ (a b : Option Int) => a = b) emp t m
theorem pdp_none {X : Cx} {W : WX} : PDPart X W none tNoPart mNoPart := ⟨po_none, fun F H σ env fp Q _ R h => h F H fp none Po.refl R rfl⟩
theorem pdp_some {X : Cx} {W : WX} {e : Expr} {t : TE} {m : MD} (h : PD X W e t m) : PDPart X W (some e) (tPart t) (mPart m) := by
  refine ⟨po_some h.pe, fun F H σ env fp Q _ R hq => ?_⟩
  refine h.sn.go ex_emp R hq fun F1 H1 fp1 env1 x v P1 R1 d1 h1 => ?_
  cases x with
  | int i => exact ⟨i, d1, h1 F1 H1 fp1 (some i) Po.refl R1 rfl⟩
  | _ => exact h1.elim
/-- a slice of a tuple, told as the object that it is -/
def rSlE (K : PySem.W.Frag) : V → Option Int → Option Int → Hp → VK → Prop := fun x lo hi H Q => ∃ a xs, x = .ref a ∧ SqT K H a xs ∧
  (HT.sIx xs.length 0 lo = 0 ∧ HT.sIx xs.length xs.length hi = xs.length → Q (.ref a) H) ∧ (¬ (HT.sIx xs.length 0 lo = 0 ∧ HT.sIx xs.length xs.length hi = xs.length) → ∀ p o, H p = none → o.dict = none → Q (.ref p) (upd H p (.frz o (.tup (cutV xs lo hi)))))
theorem sl_tupE {X : Cx} : SlR X (rSlE X.K) := by
  intro pins s σ H x v vl vu lo hi sl Q I rx hs pl pu h
  obtain ⟨a, xs, rfl, hx, q1, q2⟩ := h
  cases rx
  obtain ⟨its, r, ht, hz⟩ := I.tuple hx
  have hlen : its.toArray.size = xs.length := by simp [r.length]
  refine ⟨"tuple", _, PyProof.Rows.slot_tuple_getitem.lookup, ht.typeIs, ?_⟩
  by_cases hw : HT.sIx xs.length 0 lo = 0 ∧ HT.sIx xs.length xs.length hi = xs.length
  · exact getItem_tuple_whole ht hs pl pu (by rw [hlen]; exact hw) ⟨.ref a, H, I, rfl, q1 hw⟩
  · refine HT.getItem_tuple_cut ht hs pl pu (by rw [hlen]; exact hw) ?_ (by rw [hlen]; exact hz)
    rw [hlen]
    generalize hc : (its.toArray.toList.drop (HT.sIx xs.length 0 lo)).take (HT.sIx xs.length xs.length hi - HT.sIx xs.length 0 lo) = cut
    have rc : Vals (cutV xs lo hi) cut := by
      rw [← hc]
      exact (r.drop _).take _
    have hp := Heap.get?_push_size s.heap (o := { cls := .type "tuple", data := .seq cut.toArray }) rfl
    have J := I.laid (t' := s.toks) (o := .frz { cls := .type "tuple", data := .seq cut.toArray } (.tup (cutV xs lo hi))) (fun b u e => Heap.get?_push_of_some _ e) (Nat.le_refl _) ⟨hp, Nat.le_trans (cutV_length xs lo hi) hz, cut, rc, ⟨_, hp, rfl, _, rfl⟩⟩
    exact ⟨.ref _, _, J, rfl, q2 hw _ _ (I.hok.fresh (Nat.le_refl _)) rfl⟩
abbrev rSlD (K : PySem.W.Frag) : V → Option Int → Option Int → Hp → VK → Prop := fun x lo hi H Q => (rSlL K x lo hi H Q ∨ rSlE K x lo hi H Q) ∨ rSlS x lo hi H Q
theorem sl_D {X : Cx} : SlR X (rSlD X.K) := (sl_list.or sl_tupE).or sl_str
theorem Dens.cut {F : Hp} {ds : List D} {vs : List V} (lo hi : Option Int) (h : Dens K F ds vs) : Dens K F (cutD ds lo hi) (cutV vs lo hi) := by
  unfold cutD cutV
  rw [Dens.length h]
  exact (h.drop _).take _
theorem cutD_map {α β : Type} (f : α → β) (xs : List α) (lo hi : Option Int) : cutD (xs.map f) lo hi = (cutD xs lo hi).map f := by
  unfold cutD
  rw [List.length_map, List.map_take, List.map_drop]
theorem dens_ints {F : Hp} : ∀ ns : List Int, Dens K F (ns.map D.int) (ns.map V.int)
  | [] => rfl
  | n :: ns => ⟨.int n, ns.map V.int, rfl, rfl, dens_ints ns⟩
theorem sld {F H : Hp} {x : D} {a : V} {z : D} {lo hi : Option Int} (e : FH F H) (hx : Den K F x a) (hz : sliceD x lo hi = some z) (Q : VK) (k : ∀ F' H' c, Gr F H F' H' → Den K F' z c → Q c H') : rSlD K a lo hi H Q := by
  match x, hz with
  | .lst ds, hz =>
    cases hz
    obtain ⟨p, vs, rfl, h1, h2⟩ := hx
    refine .inl (.inl ⟨p, vs, rfl, .inl (e.rd h1), fun r hr => ?_⟩)
    obtain ⟨g, d⟩ := gr_lst e hr (h2.cut lo hi)
    exact k _ _ _ g d
  | .tup ds, hz =>
    cases hz
    obtain ⟨p, o, vs, rfl, h1, hd, h2⟩ := hx
    refine .inl (.inr ⟨p, vs, rfl, .inl (.inr ⟨o, e.at_ _ _ h1 rfl⟩), fun hw => ?_, fun _ r u hr hu => ?_⟩)
    · have ec : cutD ds lo hi = ds := by
        unfold cutD
        rw [Dens.length h2, hw.1, hw.2, List.drop_zero, Nat.sub_zero, ← Dens.length h2, List.take_length]
      rw [ec] at k
      exact k F H _ (Gr.refl e) ⟨p, o, vs, rfl, h1, hd, h2⟩
    · obtain ⟨g, d⟩ := gr_tup e hr hu (h2.cut lo hi)
      exact k _ _ _ g d
  | .scr ns, hz =>
    cases hz
    obtain ⟨p, rfl, h1⟩ := hx
    refine .inl (.inl ⟨p, _, rfl, e.l h1, fun r hr => ?_⟩)
    have dc := (dens_ints (K := K) (F := F) ns).cut lo hi
    rw [cutD_map] at dc
    obtain ⟨g, d⟩ := gr_lst e hr dc
    exact k _ _ _ g d
  | .str s, hz =>
    by_cases h : s.length ≤ sizeLine
    · have hz' : some (D.str (cutS s lo hi)) = some z := by rw [← hz]; exact (if_pos h).symm
      cases hz'
      exact .inr ⟨s, hx, h, gr_val (z := .str (cutS s lo hi)) e rfl k⟩
    · have hz' : none = some z := by rw [← hz]; exact (if_neg h).symm
      cases hz'
theorem pd_slice {X : Cx} {W : WX} {e : Expr} {te : TE} {me : MD} {lo hi : Option Expr} {tl th : TO} {ml mh : DEnv → Rs (Option Int)} {pos p2 : Pos} (he : PD X W e te me) (hl : PDPart X W lo tl ml) (hu : PDPart X W hi th mh) :
    PD X W (.Subscript e (.Slice lo hi none p2) pos) (tSl (rSlD X.K) te tl th) (mSlice me ml mh) := by
  refine ⟨pe_slice sl_D he.pe hl.po hu.po, fun F H σ env fp Q _ R h => ?_⟩
  refine he.sn.go ex_emp R h fun F1 H1 fp1 env1 x v P1 R1 d1 h1 => ?_
  refine hl.sn.go ex_emp R1 h1 fun F2 H2 fp2 env2 l l' P2 R2 d2 h2 => ?_
  have d2' : l = l' := d2
  subst d2'
  refine hu.sn.go ex_emp R2 h2 fun F3 H3 fp3 env3 u u' P3 R3 d3 h3 => ?_
  have d3' : u = u' := d3
  subst d3'
  obtain ⟨c, e, k⟩ := out_ofO R3 h3
  exact sld R3.ex (Den.mono (P2.f.trans P3.f) _ _ d1) e Q k
theorem one_den {F : Hp} {x : D} {as : List V} (h : Dens K F [x] as) : ∃ a, as = [a] ∧ Den K F x a := by
  obtain ⟨a, r, rfl, h1, h2⟩ := h
  have h2' : r = [] := h2
  subst h2'
  exact ⟨a, rfl, h1⟩
theorem two_den {F : Hp} {x y : D} {as : List V} (h : Dens K F [x, y] as) : ∃ a b, as = [a, b] ∧ Den K F x a ∧ Den K F y b := by
  obtain ⟨a, r, rfl, h1, h2⟩ := h
  obtain ⟨b, rfl, h3⟩ := one_den h2
  exact ⟨a, b, rfl, h1, h3⟩
theorem cd_len : CallD K (fun xs H Q => ∃ x n, xs = [x] ∧ LenV K x H n ∧ Q (.int n) H) lenD := by
  intro F H xs as z e hx hz Q k
  match xs, hz with
  | [.lst ds], hz =>
    cases hz
    obtain ⟨_, rfl, p, vs, rfl, h1, h2⟩ := one_den hx
    exact ⟨.ref p, ds.length, rfl, .inl ⟨vs, .inl (e.rd h1), Dens.length h2⟩, gr_val (z := .int ds.length) e rfl k⟩
  | [.tup ds], hz =>
    cases hz
    obtain ⟨_, rfl, p, o, vs, rfl, h1, _, h2⟩ := one_den hx
    exact ⟨.ref p, ds.length, rfl, .inr ⟨vs, .inl (.inr ⟨o, e.at_ _ _ h1 rfl⟩), Dens.length h2⟩, gr_val (z := .int ds.length) e rfl k⟩
  | [.wtp ds], hz =>
    cases hz
    obtain ⟨_, rfl, p, vs, rfl, h1, h2⟩ := one_den hx
    exact ⟨.ref p, ds.length, rfl, .inr ⟨vs, .inl (.inl (e.at_ _ _ h1 rfl)), Dens.length h2⟩, gr_val (z := .int ds.length) e rfl k⟩
  | [.scr ns], hz =>
    cases hz
    obtain ⟨_, rfl, p, rfl, h1⟩ := one_den hx
    exact ⟨.ref p, ns.length, rfl, .inl ⟨_, e.l h1, by simp⟩, gr_val (z := .int ns.length) e rfl k⟩
  | [.str s], hz =>
    obtain ⟨a, rfl, h1⟩ := one_den hx
    by_cases h : s.length ≤ sizeLine
    · have hz' : some (D.int s.length) = some z := by rw [← hz]; exact (if_pos h).symm
      cases hz'
      have h1' : a = .str s := h1
      subst h1'
      exact ⟨.str s, s.length, rfl, ⟨h, rfl⟩, gr_val (z := .int s.length) e rfl k⟩
    · have hz' : none = some z := by rw [← hz]; exact (if_neg h).symm
      cases hz'
def absD : List D → Option D
  | [.int i] => some (.int (if i < 0 then -i else i))
  | _ => none
theorem cd_abs : CallD K (fun xs H Q => ∃ i, xs = [.int i] ∧ Q (.int (if i < 0 then -i else i)) H) absD := by
  intro F H xs as z e hx hz Q k
  match xs, hz with
  | [.int i], hz =>
    cases hz
    obtain ⟨a, rfl, h1⟩ := one_den hx
    have h1' : a = .int i := h1
    subst h1'
    exact ⟨i, rfl, gr_val (z := .int (if i < 0 then -i else i)) e rfl k⟩
def max2D : List D → Option D
  | [.int i, .int j] => some (.int (if j > i then j else i))
  | _ => none
def min2D : List D → Option D
  | [.int i, .int j] => some (.int (if j < i then j else i))
  | _ => none
theorem cd_max2 : CallD K (fun xs H Q => ∃ i j, xs = [.int i, .int j] ∧ Q (.int (if j > i then j else i)) H) max2D := by
  intro F H xs as z e hx hz Q k
  match xs, hz with
  | [.int i, .int j], hz =>
    cases hz
    obtain ⟨a, b, rfl, h1, h2⟩ := two_den hx
    have h1' : a = .int i := h1
    have h2' : b = .int j := h2
    subst h1' h2'
    exact ⟨i, j, rfl, gr_val (z := .int (if j > i then j else i)) e rfl k⟩
theorem cd_min2 : CallD K (fun xs H Q => ∃ i j, xs = [.int i, .int j] ∧ Q (.int (if j < i then j else i)) H) min2D := by
  intro F H xs as z e hx hz Q k
  match xs, hz with
  | [.int i, .int j], hz =>
    cases hz
    obtain ⟨a, b, rfl, h1, h2⟩ := two_den hx
    have h1' : a = .int i := h1
    have h2' : b = .int j := h2
    subst h1' h2'
    exact ⟨i, j, rfl, gr_val (z := .int (if j < i then j else i)) e rfl k⟩
def intD : List D → Option D
  | [.int i] => some (.int i)
  | [.bl b] => some (.int (if b then 1 else 0))
  | _ => none
theorem cd_int : CallD K (fun xs H Q => (∃ i, xs = [.int i] ∧ Q (.int i) H) ∨ ∃ k, xs = [.bl k] ∧ Q (.int (if k then 1 else 0)) H) intD := by
  intro F H xs as z e hx hz Q k
  match xs, hz with
  | [.int i], hz =>
    cases hz
    obtain ⟨a, rfl, h1⟩ := one_den hx
    have h1' : a = .int i := h1
    subst h1'
    exact .inl ⟨i, rfl, gr_val (z := .int i) e rfl k⟩
  | [.bl b], hz =>
    cases hz
    obtain ⟨a, rfl, h1⟩ := one_den hx
    have h1' : a = .bl b := h1
    subst h1'
    exact .inr ⟨b, rfl, gr_val (z := .int (if b then 1 else 0)) e rfl k⟩
theorem pdw_divmod {X : Cx} {W : WX} {e : Expr} {es : List Expr} {t : TA} {m : MA} {p pos : Pos} (hg : Gl X "divmod") (hm : X.mg "divmod" = none) (ha : PDA X W (e :: es) t m)
    (he : starEach (e :: es) X.env = (false, eval e X.env) :: starEach es X.env := by rfl) (hpl : (backTo pos (starEach es X.env)).any (·.1) = false := by rfl) :
    PDw X W (.Call (.Name "divmod" p) (e :: es) [] pos) (tCB (fun xs H Q => ∃ i j, xs = [.int i, .int j] ∧ CDiv i j ∧ ∀ p, H p = none → Q (.ref p) (upd H p (.tup [.int (i / j), .int (i % j)]))) t) (mCB divmodD m) := by
  refine ⟨pe_callB call_divmod hg hm (by decide +kernel) ha.pa (by decide) (by decide) he hpl, fun F H σ env fp Q _ R h => ?_⟩
  refine ha.sn.go ex_emp R h fun F1 H1 fp1 env1 x v P1 R1 d1 h1 => ?_
  obtain ⟨c, ec, k⟩ := out_ofO R1 h1
  match x, ec with
  | [.int i, .int j], ec =>
    obtain ⟨a, b, rfl, h1, h2⟩ := two_den d1
    have h1' : a = .int i := h1
    have h2' : b = .int j := h2
    subst h1' h2'
    by_cases hj : 0 < j ∧ j < 1073741824
    · have ec' : some (D.tup [.int (i / j), .int (i % j)]) = some c := by rw [← ec]; exact (if_pos hj).symm
      cases ec'
      refine ⟨i, j, rfl, hj, fun r hr => ?_⟩
      have g : Gr F1 H1 (upd F1 r (.tup [.int (i / j), .int (i % j)])) (upd H1 r (.tup [.int (i / j), .int (i % j)])) := Gr.new R1.ex hr
      exact k _ _ _ g (.inr ⟨_, r, _, rfl, rfl, .inl upd_same, .int (i / j), _, rfl, rfl, .int (i % j), _, rfl, rfl, rfl⟩)
    · have ec' : none = some c := by rw [← ec]; exact (if_neg hj).symm
      cases ec'
theorem seqD_at {F H : Hp} {x : D} {v : V} {ds : List D} (e : FH F H) (h : Den K F x v) (hs : seqD x = some ds) : ∃ p vs, v = .ref p ∧ (SqL K H p vs ∨ SqT K H p vs) ∧ Dens K F ds vs := by
  match x, hs with
  | .lst ds, hs =>
    cases hs
    obtain ⟨p, vs, rfl, h1, h2⟩ := h
    exact ⟨p, vs, rfl, .inl (.inl (e.rd h1)), h2⟩
  | .tup ds, hs =>
    cases hs
    obtain ⟨p, o, vs, rfl, h1, _, h2⟩ := h
    exact ⟨p, vs, rfl, .inr (.inl (.inr ⟨o, e.at_ _ _ h1 rfl⟩)), h2⟩
  | .scr ns, hs =>
    cases hs
    obtain ⟨p, rfl, h1⟩ := h
    exact ⟨p, _, rfl, .inl (e.l h1), dens_ints ns⟩
theorem cd_list : CallD K (fun xs H Q => ∃ p ys, xs = [.ref p] ∧ (SqL K H p ys ∨ SqT K H p ys) ∧ ∀ l, H l = none → Q (.ref l) (upd H l (.lst ys))) listD := by
  intro F H xs as z e hx hz Q k
  match xs, hz with
  | [x], hz =>
    obtain ⟨ds, h1, rfl⟩ := Option.map_eq_some_iff.mp hz
    obtain ⟨a, rfl, h2⟩ := one_den hx
    obtain ⟨p, vs, rfl, h3, h4⟩ := seqD_at e h2 h1
    refine ⟨p, vs, rfl, h3, fun l hl => ?_⟩
    obtain ⟨g, d⟩ := gr_lst e hl h4
    exact k _ _ _ g d
def rTupE (K : PySem.W.Frag) : List V → Hp → VK → Prop := fun xs H Q => ∃ p ys, xs = [.ref p] ∧ ((SqL K H p ys ∧ ∀ l o, H l = none → o.dict = none → Q (.ref l) (upd H l (.frz o (.tup ys)))) ∨ (SqT K H p ys ∧ Q (.ref p) H))
theorem call_tupE {X : Cx} : CallR X (.type "tuple") (rTupE X.K) := by
  intro pins s σ H xs us Q I r h
  obtain ⟨p, ys, rfl, h⟩ := h
  obtain ⟨u, rfl, rx⟩ := vals1 r
  cases rx
  rcases h with ⟨hq, q⟩ | ⟨hq, q⟩
  · obtain ⟨its, r', pl, hz⟩ := I.list hq
    refine call_tuple_list pl.isList (fun h' kp => ?_) (by simp only [List.size_toArray, ← r'.length]; exact hz)
    have I1 : Inv X pins σ H { s with heap := h' } := I.kept (t' := s.toks) kp
    have hp := Heap.get?_push_size h' (o := { cls := .type "tuple", data := .seq its.toArray }) rfl
    have J := I1.laid (t' := s.toks) (o := .frz { cls := .type "tuple", data := .seq its.toArray } (.tup ys)) (fun b u e => Heap.get?_push_of_some _ e) (Nat.le_refl _) ⟨hp, hz, its, r', ⟨_, hp, rfl, _, rfl⟩⟩
    exact ⟨.ref _, _, J, rfl, q _ _ (I1.hok.fresh (Nat.le_refl _)) rfl⟩
  · obtain ⟨its, r', pl, hz⟩ := I.tuple hq
    exact call_tuple_same pl ⟨.ref p, H, I, rfl, q⟩
theorem cd_tuple : CallD K (rTupE K) tupleD := by
  intro F H xs as z e hx hz Q k
  match xs, hz with
  | [x], hz =>
    obtain ⟨ds, h1, rfl⟩ := Option.map_eq_some_iff.mp hz
    obtain ⟨a, rfl, h2⟩ := one_den hx
    match x, h1, h2 with
    | .lst ds, h1, h2 =>
      cases h1
      obtain ⟨p, vs, rfl, h3, h4⟩ := h2
      refine ⟨p, vs, rfl, .inl ⟨.inl (e.rd h3), fun l o hl ho => ?_⟩⟩
      obtain ⟨g, d⟩ := gr_tup e hl ho h4
      exact k _ _ _ g d
    | .tup ds, h1, h2 =>
      cases h1
      obtain ⟨p, o, vs, rfl, h3, h5, h4⟩ := h2
      exact ⟨p, vs, rfl, .inr ⟨.inl (.inr ⟨o, e.at_ _ _ h3 rfl⟩), k F H _ (Gr.refl e) ⟨p, o, vs, rfl, h3, h5, h4⟩⟩⟩
    | .scr ns, h1, h2 =>
      cases h1
      obtain ⟨p, rfl, h3⟩ := h2
      refine ⟨p, _, rfl, .inl ⟨e.l h3, fun l o hl ho => ?_⟩⟩
      obtain ⟨g, d⟩ := gr_tup e hl ho (dens_ints ns)
      exact k _ _ _ g d
/-- a list of one kind -/
def bools : List D → Option (List Bool)
  | [] => some []
  | .bl b :: ds => (bools ds).map fun bs => b :: bs
  | _ => none
def intsD : List D → Option (List Int)
  | [] => some []
  | .int i :: ds => (intsD ds).map fun is => i :: is
  | _ => none
def strsD : List D → Option (List Str)
  | [] => some []
  | .str s :: ds => (strsD ds).map fun ss => s :: ss
  | _ => none
theorem bools_vs {F : Hp} : ∀ {ds : List D} {vs : List V} {bs : List Bool}, Dens K F ds vs → bools ds = some bs → vs = bs.map V.bl
  | [], vs, bs, h, q => by
    cases q
    exact h
  | .bl b :: ds, vs, bs, ⟨x, xs, r, s, t⟩, q => by
    obtain ⟨bs', q1, rfl⟩ := Option.map_eq_some_iff.mp q
    have s' : x = .bl b := s
    rw [r, s', bools_vs t q1]
    rfl
  | .non :: _, _, _, _, q => by cases q
  | .int _ :: _, _, _, _, q => by cases q
  | .str _ :: _, _, _, _, q => by cases q
  | .tup _ :: _, _, _, _, q => by cases q
  | .lst _ :: _, _, _, _, q => by cases q
  | .dct _ _ :: _, _, _, _, q => by cases q
  | .dtt _ _ :: _, _, _, _, q => by cases q
  | .ins _ _ _ :: _, _, _, _, q => by cases q
  | .scr _ :: _, _, _, _, q => by cases q
theorem intsD_vs {F : Hp} : ∀ {ds : List D} {vs : List V} {bs : List Int}, Dens K F ds vs → intsD ds = some bs → vs = bs.map V.int
  | [], vs, bs, h, q => by
    cases q
    exact h
  | .int b :: ds, vs, bs, ⟨x, xs, r, s, t⟩, q => by
    obtain ⟨bs', q1, rfl⟩ := Option.map_eq_some_iff.mp q
    have s' : x = .int b := s
    rw [r, s', intsD_vs t q1]
    rfl
  | .non :: _, _, _, _, q => by cases q
  | .bl _ :: _, _, _, _, q => by cases q
  | .str _ :: _, _, _, _, q => by cases q
  | .tup _ :: _, _, _, _, q => by cases q
  | .lst _ :: _, _, _, _, q => by cases q
  | .dct _ _ :: _, _, _, _, q => by cases q
  | .dtt _ _ :: _, _, _, _, q => by cases q
  | .ins _ _ _ :: _, _, _, _, q => by cases q
  | .scr _ :: _, _, _, _, q => by cases q
theorem strsD_vs {F : Hp} : ∀ {ds : List D} {vs : List V} {bs : List Str}, Dens K F ds vs → strsD ds = some bs → vs = bs.map V.str
  | [], vs, bs, h, q => by
    cases q
    exact h
  | .str b :: ds, vs, bs, ⟨x, xs, r, s, t⟩, q => by
    obtain ⟨bs', q1, rfl⟩ := Option.map_eq_some_iff.mp q
    have s' : x = .str b := s
    rw [r, s', strsD_vs t q1]
    rfl
  | .non :: _, _, _, _, q => by cases q
  | .bl _ :: _, _, _, _, q => by cases q
  | .int _ :: _, _, _, _, q => by cases q
  | .tup _ :: _, _, _, _, q => by cases q
  | .lst _ :: _, _, _, _, q => by cases q
  | .dct _ _ :: _, _, _, _, q => by cases q
  | .dtt _ _ :: _, _, _, _, q => by cases q
  | .ins _ _ _ :: _, _, _, _, q => by cases q
  | .scr _ :: _, _, _, _, q => by cases q
def allD : List D → Option D
  | [.lst ds] => (bools ds).map fun bs => .bl (bs.all id)
  | _ => none
def anyD : List D → Option D
  | [.lst ds] => (bools ds).map fun bs => .bl (bs.any id)
  | _ => none
theorem cd_all : CallD K (rAll K) allD := by
  intro F H xs as z e hx hz Q k
  match xs, hz with
  | [.lst ds], hz =>
    obtain ⟨bs, h1, rfl⟩ := Option.map_eq_some_iff.mp hz
    obtain ⟨_, rfl, p, vs, rfl, h2, h3⟩ := one_den hx
    have ev := bools_vs h3 h1
    subst ev
    exact ⟨p, bs, rfl, .inl (e.rd h2), gr_val (z := .bl (bs.all id)) e rfl k⟩
theorem cd_any : CallD K (rAny K) anyD := by
  intro F H xs as z e hx hz Q k
  match xs, hz with
  | [.lst ds], hz =>
    obtain ⟨bs, h1, rfl⟩ := Option.map_eq_some_iff.mp hz
    obtain ⟨_, rfl, p, vs, rfl, h2, h3⟩ := one_den hx
    have ev := bools_vs h3 h1
    subst ev
    exact ⟨p, bs, rfl, .inl (e.rd h2), gr_val (z := .bl (bs.any id)) e rfl k⟩
/-- sorted of intsD -/
def insI (x : Int) : List Int → List Int
  | [] => [x]
  | y :: ys => if x ≤ y then x :: y :: ys else y :: insI x ys
def sortI : List Int → List Int
  | [] => []
  | x :: xs => insI x (sortI xs)
theorem insI_perm (x : Int) : ∀ ys : List Int, (insI x ys).Perm (x :: ys)
  | [] => List.Perm.refl _
  | y :: ys => by
    unfold insI
    split
    · exact List.Perm.refl _
    · exact ((insI_perm x ys).cons y).trans (List.Perm.swap x y ys)
theorem sortI_perm : ∀ xs : List Int, (sortI xs).Perm xs
  | [] => List.Perm.refl _
  | x :: xs => (insI_perm x (sortI xs)).trans ((sortI_perm xs).cons x)
theorem insI_sorted (x : Int) : ∀ ys : List Int, ys.Pairwise (· ≤ ·) → (insI x ys).Pairwise (· ≤ ·)
  | [], _ => by simp [insI]
  | y :: ys, h => by
    unfold insI
    obtain ⟨h1, h2⟩ := List.pairwise_cons.mp h
    split
    · rename_i hxy
      refine List.pairwise_cons.mpr ⟨fun z hz => ?_, h⟩
      rcases List.mem_cons.mp hz with e | hz
      · rw [e]; exact hxy
      · exact Int.le_trans hxy (h1 z hz)
    · rename_i hxy
      refine List.pairwise_cons.mpr ⟨fun z hz => ?_, insI_sorted x ys h2⟩
      rcases List.mem_cons.mp ((insI_perm x ys).subset hz) with e | hz
      · rw [e]; omega
      · exact h1 z hz
theorem sortI_sorted : ∀ xs : List Int, (sortI xs).Pairwise (· ≤ ·)
  | [] => List.Pairwise.nil
  | x :: xs => insI_sorted x (sortI xs) (sortI_sorted xs)
theorem sorted_one {a b : List Int} (p : a.Perm b) (ha : a.Pairwise (· ≤ ·)) (hb : b.Pairwise (· ≤ ·)) : a = b := List.Perm.eq_of_pairwise (le := (· ≤ ·)) (fun x y _ _ h1 h2 => Int.le_antisymm h1 h2) ha hb p
def sortedD : List D → Option D
  | [.lst ds] => (intsD ds).bind fun is => if is.length < 64 then some (.lst ((sortI is).map .int)) else none
  | _ => none
theorem cd_sorted : CallD K (rSorted K) sortedD := by
  intro F H xs as z e hx hz Q k
  match xs, hz with
  | [.lst ds], hz =>
    obtain ⟨is, h1, hz⟩ := Option.bind_eq_some_iff.mp hz
    obtain ⟨_, rfl, p, vs, rfl, h2, h3⟩ := one_den hx
    have ev := intsD_vs h3 h1
    subst ev
    by_cases hl : is.length < 64
    · rw [if_pos hl] at hz
      cases hz
      refine ⟨p, is, rfl, .inl (e.rd h2), hl, fun ns' r pm ps hr => ?_⟩
      have en : ns' = sortI is := sorted_one (pm.trans (sortI_perm is).symm) ps (sortI_sorted is)
      subst en
      obtain ⟨g, d⟩ := gr_lst e hr (dens_ints (K := K) (F := F) (sortI is))
      exact k _ _ _ g d
    · rw [if_neg hl] at hz
      cases hz
def reprD : List D → Option D
  | [x] => (toPy x).bind fun p => if p.showable = true ∧ p.hasDict = false ∧ p.depth ≤ 50 ∧ p.shown.length ≤ sizeLine then some (.str p.shown) else none
  | _ => none
def rRepr (K : PySem.W.Frag) : List V → Hp → VK → Prop := fun xs H Q => ∃ x d, xs = [x] ∧ Dp K H x d ∧ d.showable = true ∧ d.hasDict = false ∧ d.depth ≤ 50 ∧ d.shown.length ≤ sizeLine ∧ Q (.str d.shown) H
theorem call_reprD {X : Cx} (hgd : X.A.guards = some []) (hu : X.A.units + 64 < cLine) : CallR X (.builtin "repr") (rRepr X.K) := by
  intro pins s σ H xs us Q I r h
  obtain ⟨x, d, rfl, hd, h1, h2, h3, h4, q⟩ := h
  obtain ⟨u, rfl, rx⟩ := vals1 r
  have fin : ∀ t : Nat, EP X pins σ Q (.str d.shown t) { s with toks := s.toks + 1 } := fun t => ⟨.str d.shown, H, I.tok _, ⟨t, rfl⟩, q⟩
  have rd := Dp.reads I d x u hd rx
  cases hd with
  | non =>
    cases rx
    exact PySem.P.repr_of_none (fin _)
  | bl b =>
    cases rx
    exact PySem.P.repr_of_bool (fin _)
  | int i =>
    obtain ⟨t, rfl⟩ := rx
    exact PySem.P.repr_of_int (by simpa [PyData.showable] using h1) (fin _)
  | str y =>
    obtain ⟨t, rfl⟩ := rx
    exact PySem.P.repr_of_str (fin _) h4
  | lst hs ha =>
    obtain rfl : u = Value.ref _ := rx
    obtain ⟨as, hr⟩ := rd
    exact repr_of_reads' hr h1 (fun z => by rw [h2] at z; cases z) hgd (by omega) (fun _ _ e => e) (fun h' t tk kp => ⟨.str _, H, I.kept (t' := tk) kp, ⟨t, rfl⟩, q⟩) h4
  | tup hs ha =>
    obtain rfl : u = Value.ref _ := rx
    obtain ⟨as, hr⟩ := rd
    exact repr_of_reads' hr h1 (fun z => by rw [h2] at z; cases z) hgd (by omega) (fun _ _ e => e) (fun h' t tk kp => ⟨.str _, H, I.kept (t' := tk) kp, ⟨t, rfl⟩, q⟩) h4
theorem cd_repr : CallD K (rRepr K) reprD := by
  intro F H xs as z e hx hz Q k
  match xs, hz with
  | [x], hz =>
    obtain ⟨p, h1, hz⟩ := Option.bind_eq_some_iff.mp hz
    obtain ⟨a, rfl, h2⟩ := one_den hx
    by_cases c : p.showable = true ∧ p.hasDict = false ∧ p.depth ≤ 50 ∧ p.shown.length ≤ sizeLine
    · rw [if_pos c] at hz
      cases hz
      exact ⟨a, p, rfl, toPy_dp e x a p h2 h1, c.1, c.2.1, c.2.2.1, c.2.2.2, gr_val (z := .str p.shown) e rfl k⟩
    · rw [if_neg c] at hz
      cases hz
end
end DD
namespace DD
open PySem PySem.Spec PyProof.Rows L2
section
variable {X : Cx} {W : WX} {tg : Expr}
theorem pi_or {e : Expr} {w1 w2 : TI} (h1 : PI X tg e w1) (h2 : PI X tg e w2) : PI X tg e (fun σ H R => w1 σ H R ∨ w2 σ H R) :=
  ⟨fun pins s σ H R I h => h.elim (h1.run pins s σ H R I) (h2.run pins s σ H R I)⟩
abbrev iSeqD (K : PySem.W.Frag) (te : TE) : TI := fun σ H R => (iList K te σ H R ∨ iTup K te σ H R) ∨ iStr te σ H R
theorem itr_listA {K : PySem.W.Frag} {F : Hp} {a : Addr} {vs : List V} {ds : List D} (hu : ∀ H, FA F H → SqL K H a vs) (hd : Dens K F ds vs) : Itr false K F ds (Itl K a) := by
  intro F' H ef eh i
  refine ⟨fun d hd' => ?_, fun hl => ⟨vs, hu H (FA.of ef eh.toFA), by rw [← Dens.length hd]; exact hl⟩⟩
  obtain ⟨v, h1, h2⟩ := Dens.get hd hd'
  refine ⟨⟨vs, v, hu H (FA.of ef eh.toFA), h1⟩, ?_⟩
  rintro x H' ⟨rfl, h3⟩
  have e1 := h3 vs (hu _ (FA.of ef eh.toFA))
  rw [h1] at e1
  cases e1
  exact ⟨F', Gr.refl eh, Den.mono ef d v h2⟩
theorem itr_str {K : PySem.W.Frag} {F : Hp} (s : Str) : Itr false K F (s.cps.toList.map fun c => D.str ⟨#[c]⟩) (Its s) := by
  intro F' H ef eh i
  refine ⟨fun d hd' => ?_, fun hl => by
    show s.cps.size ≤ i
    simpa using hl⟩
  rw [List.getElem?_map] at hd'
  obtain ⟨c, h1, rfl⟩ := Option.map_eq_some_iff.mp hd'
  have h1' : s.cps[i]? = some c := by simpa using h1
  refine ⟨(Array.getElem?_eq_some_iff.mp h1').1, ?_⟩
  rintro x H' ⟨rfl, c', h2, rfl⟩
  rw [h1'] at h2
  cases h2
  exact ⟨F', Gr.refl eh, rfl⟩
theorem itr_tup {K : PySem.W.Frag} {F : Hp} {a : Addr} {vs : List V} {ds : List D} (hu : ∀ H, FA F H → SqT K H a vs) (hd : Dens K F ds vs) : Itr false K F ds (Itt K a) := by
  intro F' H ef eh i
  refine ⟨fun d hd' => ?_, fun hl => ⟨vs, hu H (FA.of ef eh.toFA), by rw [← Dens.length hd]; exact hl⟩⟩
  obtain ⟨v, h1, h2⟩ := Dens.get hd hd'
  refine ⟨⟨vs, v, hu H (FA.of ef eh.toFA), h1⟩, ?_⟩
  rintro x H' ⟨rfl, h3⟩
  have e1 := h3 vs (hu _ (FA.of ef eh.toFA))
  rw [h1] at e1
  cases e1
  exact ⟨F', Gr.refl eh, Den.mono ef d v h2⟩
theorem sn_iter {K : PySem.W.Frag} {te : TE} {me : MD} (he : Sn K W (Den K) emp te me) : Sn K W (Itr false K) emp (iSeqD K te) (mIter me) := by
  intro F H σ env fp Q _ R h
  -- which of the three, by what comes
  have fin : ∀ (t : TI) (P : D → Prop) (k : V → Hp → (It → Hp → Prop) → Prop), (∀ σ H R, t σ H R = te σ H fun x H1 => k x H1 R) →
      (∀ e x, me env = .ok x e → P x) → (∀ F1 H1 x v ds, FH F1 H1 → Den K F1 x v → P x → iterD x = some ds → ∀ R : It → Hp → Prop, (∀ J, Itr false K F1 ds J → R J H1) → k v H1 R) → t σ H Q := by
    intro t P k ht hP hk
    rw [ht]
    have hP' := hP
    refine he F H σ env fp _ ex_emp R ?_
    unfold mIter at h
    generalize me env = r at h hP'
    cases r with
    | ok x e =>
      intro F1 H1 fp1 v P1 R1 d1
      have h1 := Out.step P1 h
      rw [Rs.bind_ok] at h1
      cases hi : iterD x with
      | none => rw [hi] at h1; exact h1.elim
      | some ds =>
        rw [hi] at h1
        exact hk F1 H1 x v ds R1.ex d1 (hP' e x rfl) hi _ fun J hJ => h1 F1 H1 fp1 J Po.refl R1 hJ
    | exc x e => exact h
    | fail => exact h
  have L := fin (iList K te) (fun x => (∃ ds, x = .lst ds) ∨ ∃ ns, x = .scr ns) (fun x H1 R => ∃ a, x = .ref a ∧ (∃ xs, SqL K H1 a xs) ∧ R (Itl K a) H1) (fun _ _ _ => rfl)
  have T := fin (iTup K te) (fun x => (∃ ds, x = .tup ds) ∨ ∃ ds, x = .wtp ds) (fun x H1 R => ∃ a, x = .ref a ∧ (∃ xs, SqT K H1 a xs) ∧ R (Itt K a) H1) (fun _ _ _ => rfl)
  have S := fin (iStr te) (fun x => ∃ s, x = .str s) (fun v H1 R => ∃ x, v = .str x ∧ R (Its x) H1) (fun _ _ _ => rfl)
  have tup : (∀ e x, me env = .ok x e → (∃ ds, x = .tup ds) ∨ ∃ ds, x = .wtp ds) → iSeqD K te σ H Q := fun hP => .inl (.inr (T hP fun F1 H1 x v ds e1 d1 hx hi R k => by
    rcases hx with ⟨ds', rfl⟩ | ⟨ds', rfl⟩
    · cases hi
      obtain ⟨a, o, vs, rfl, h1, _, h2⟩ := d1
      exact ⟨a, rfl, ⟨vs, .inl (.inr ⟨o, e1.at_ _ _ h1 rfl⟩)⟩, k _ (itr_tup (fun H eh => .inl (.inr ⟨o, eh.at_ _ _ h1 rfl⟩)) h2)⟩
    · cases hi
      obtain ⟨a, vs, rfl, h1, h2⟩ := d1
      exact ⟨a, rfl, ⟨vs, .inl (.inl (e1.at_ _ _ h1 rfl))⟩, k _ (itr_tup (fun H eh => .inl (.inl (eh.at_ _ _ h1 rfl))) h2)⟩))
  have lst : (∀ e x, me env = .ok x e → (∃ ds, x = .lst ds) ∨ ∃ ns, x = .scr ns) → iSeqD K te σ H Q := fun hP => .inl (.inl (L hP fun F1 H1 x v ds e1 d1 hx hi R k => by
    rcases hx with ⟨ds', rfl⟩ | ⟨ns, rfl⟩
    · cases hi
      obtain ⟨a, vs, rfl, h1, h2⟩ := d1
      exact ⟨a, rfl, ⟨vs, .inl (e1.rd h1)⟩, k _ (itr_listA (fun H eh => .inl (eh.rd h1)) h2)⟩
    · cases hi
      obtain ⟨a, rfl, h1⟩ := d1
      exact ⟨a, rfl, ⟨_, e1.l h1⟩, k _ (itr_listA (fun H eh => eh.l h1) (dens_ints ns))⟩))
  have str : (∀ e x, me env = .ok x e → ∃ s, x = .str s) → iSeqD K te σ H Q := fun hP => .inr (S hP fun F1 H1 x v ds e1 d1 hx hi R k => by
    obtain ⟨s, rfl⟩ := hx
    cases hi
    exact ⟨s, d1, k _ (itr_str s)⟩)
  cases hm : me env with
  | ok x e =>
    cases x with
    | tup ds => exact tup fun e' x' q => by rw [hm] at q; cases q; exact .inl ⟨_, rfl⟩
    | wtp ds => exact tup fun e' x' q => by rw [hm] at q; cases q; exact .inr ⟨_, rfl⟩
    | lst ds => exact lst fun e' x' q => by rw [hm] at q; cases q; exact .inl ⟨_, rfl⟩
    | scr ds => exact lst fun e' x' q => by rw [hm] at q; cases q; exact .inr ⟨_, rfl⟩
    | str s => exact str fun e' x' q => by rw [hm] at q; cases q; exact ⟨_, rfl⟩
    | _ =>
      unfold mIter at h
      rw [hm] at h
      exact h.elim
  | exc x e => exact tup fun e' x' q => by rw [hm] at q; cases q
  | fail =>
    unfold mIter at h
    rw [hm] at h
    exact h.elim
theorem pdi_seq {e : Expr} {te : TE} {me : MD} (he : PD X W e te me) : PDI false X W tg e (iSeqD X.K te) (mIter me) := ⟨pi_or (pi_or (pi_list he.pe) (pi_tup he.pe)) (pi_str he.pe), sn_iter he.sn⟩
theorem itr_rng {K : PySem.W.Frag} {F : Hp} (i : Int) (n : Nat) : Itr false K F (rngL i n) (L2.Itr i n) := by
  intro F' H ef eh k
  refine ⟨fun d hd => ?_, fun hl => by
    show n ≤ k
    simpa [rngL] using hl⟩
  unfold rngL at hd
  rw [List.getElem?_map] at hd
  obtain ⟨c, h1, rfl⟩ := Option.map_eq_some_iff.mp hd
  obtain ⟨h2, h3⟩ := List.getElem?_eq_some_iff.mp h1
  rw [List.getElem_range] at h3
  subst h3
  refine ⟨by
    show k < n
    simpa using h2, ?_⟩
  rintro x H' ⟨rfl, rfl⟩
  exact ⟨F', Gr.refl eh, rfl⟩
theorem smallI_iff {i : Int} (h : smallI i = true) : -(2 ^ 62) ≤ i ∧ i < 2 ^ 62 := by
  unfold smallI at h
  rw [Bool.and_eq_true, decide_eq_true_eq, decide_eq_true_eq] at h
  exact h
theorem sn_rng1 {K : PySem.W.Frag} {a : MD} {ta : TA} (ha : Sn K W (Dens K) emp ta (mCons a mNil)) : Sn K W (Itr false K) emp (iRng1 ta) (mRng (mCons a mNil)) := by
  intro F H σ env fp Q _ R h
  have hn := argN_cons (a := a) argN_nil
  unfold mRng at h
  refine ha F H σ env fp _ ex_emp R ?_
  cases hm : mCons a mNil env with
  | fail => rw [hm] at h; exact h
  | exc x e => rw [hm] at h; exact h
  | ok ds e =>
    rw [hm] at h
    have hl := hn _ _ _ hm
    intro F1 H1 fp1 vs P1 R1 d1
    have h1 := Out.step P1 h
    rw [Rs.bind_ok] at h1
    obtain ⟨c, ec, k⟩ := out_ofO R1 h1
    match ds, hl, ec with
    | [.int j], _, ec =>
      obtain ⟨a, rfl, q⟩ := one_den d1
      have q' : a = .int j := q
      subst q'
      by_cases hj : smallI j = true
      · have ec' : some (rngL 0 j.toNat) = some c := by rw [← ec]; exact (if_pos hj).symm
        cases ec'
        exact ⟨j, rfl, (smallI_iff hj).1, (smallI_iff hj).2, k F1 H1 _ (Gr.refl R1.ex) (itr_rng 0 _)⟩
      · have ec' : none = some c := by rw [← ec]; exact (if_neg hj).symm
        cases ec'
theorem pdi_range1 {e : Expr} {a : MD} {ta : TA} {p pos : Pos} (hg : Gl X "range") (hm : X.mg "range" = none) (ha : PDA X W [e] ta (mCons a mNil)) (hs : starEach [e] X.env = [(false, eval e X.env)] := by rfl) :
    PDI false X W tg (.Call (.Name "range" p) [e] [] pos) (iRng1 ta) (mRng (mCons a mNil)) := ⟨pi_range1 hg hm ha.pa hs, sn_rng1 ha.sn⟩
end
theorem meets_enumT (l : Addr) (items : Array Value) (n : Nat) (dct : Option Addr) (sl : Array (Option Value)) :
    Meets (Builtin.«enumerate.__new__» ⟨[.type "enumerate", .ref l], []⟩) (fun _ R s => s.heap.get? l = some { cls := .type "tuple", dict := dct, data := .seq items n, slots := sl } ∧
      R (.ok (.ret (.ref (s.heap.push { cls := .type "tuple_iterator", data := .fields #[.ref l, .int 0 0] }).objs.size)))
        { s with heap := (s.heap.push { cls := .type "tuple_iterator", data := .fields #[.ref l, .int 0 0] }).push { cls := .type "enumerate", data := .fields #[.none, .bool false, .ref s.heap.objs.size, rawInt 0, .none, .none] } }) :=
  .of_wp fun prog w A R s h => by
    obtain ⟨hp, g, d, tk, os⟩ := s
    obtain ⟨hl, h⟩ := h
    have hsub := sub_enumerate
    have hT : Heap.IsTuple (Shared.heap ⟨hp, g, d, tk, os⟩) l items := ⟨_, hl, rfl, n, rfl⟩
    wp_walk using AutoSeq1.wpAny_loadPart' hl
    refine wpAny_stack_any fun st => wpAny_pure ?_
    split
    · rename_i c _ _ _ _ _
      cases (c == Value.type "enumerate")
      all_goals
        wp_walk using AutoSeq1.wpAny_loadPart' hl, wpAny_pyIter_tuple hT
        exact ⟨_, rfl, h⟩
    · wp_walk using AutoSeq1.wpAny_loadPart' hl, wpAny_pyIter_tuple hT
      exact ⟨_, rfl, h⟩
end DD
namespace DD
open PySem PySem.Spec PyProof.Rows L2
theorem call_enumT {prog : Program} {w : World} {A : Around} {E : Value → Shared → Prop} {s : Shared} {l : Addr} {items : Array Value} {Q : Value → Shared → Prop} (hT : s.heap.IsTuple l items)
    (h : ∀ h', IsEnum h' (s.heap.objs.size + 1) s.heap.objs.size 0 .none → h'.IsTupleIter s.heap.objs.size l 0 → h'.objs.size = s.heap.objs.size + 2 →
      (∀ b o, s.heap.get? b = some o → h'.get? b = some o) → Q (.ref (s.heap.objs.size + 1)) { s with heap := h' }) :
    wpAny (model prog w) A (call (.type "enumerate") [.ref l]) Q E s := by
  obtain ⟨⟨c, dct, dt, sl⟩, hl, hc, n, hd⟩ := hT
  replace hc : c = .type "tuple" := hc
  replace hd : dt = .seq items n := hd
  subst hc hd
  refine callType_new F.called_enumerate (by decide) (F.typeCall_enumerate_1 _) (F.newCall_enumerate_1 _) (fun obj => F.args_object_init_2 obj _) F.entry_enumerate_new
    (meets_enumT l items n dct sl) ⟨hl, ?_⟩
  let i1 : Obj := { cls := .type "tuple_iterator", data := .fields #[.ref l, .int 0 0] }
  have sz : (s.heap.push i1).objs.size = s.heap.objs.size + 1 := Heap.size_push ..
  show _ ∧ _
  rw [show (s.heap.push { cls := .type "tuple_iterator", data := .fields #[.ref l, .int 0 0] }).objs.size = s.heap.objs.size + 1 from sz]
  have en : ∀ o2 : Obj, o2.isFreed = false → ((s.heap.push i1).push o2).get? (s.heap.objs.size + 1) = some o2 := fun o2 z => by
    have q := Heap.get?_push_size (s.heap.push i1) (o := o2) z
    rwa [sz] at q
  have he : IsEnum ((s.heap.push i1).push { cls := .type "enumerate", data := .fields #[.none, .bool false, .ref s.heap.objs.size, rawInt 0, .none, .none] }) (s.heap.objs.size + 1) s.heap.objs.size 0 .none := en _ rfl
  refine ⟨⟨_, he, rfl⟩, ?_⟩
  exact h _ he ⟨i1, Heap.get?_push_of_some _ (Heap.get?_push_size _ rfl), rfl, rfl⟩ (by rw [Heap.size_push, sz]) fun b o q => Heap.get?_push_of_some _ (Heap.get?_push_of_some _ q)
/-- the tuple at a, each item in a new pair -/
def ItE (K : PySem.W.Frag) (a : Addr) : It :=
  ⟨fun i H => ∃ (xs : List V) (x : V), SqT K H a xs ∧ xs[i]? = some x, fun i H v H' => ∃ T x, v = .ref T ∧ H T = none ∧ H' = upd H T (.tup [.int (i : Nat), x]) ∧ ∀ xs, SqT K H a xs → xs[i]? = some x, fun i H => ∃ xs : List V, SqT K H a xs ∧ xs.length ≤ i⟩
theorem turn_enumT {P : Program} {w : World} {K : PySem.W.Frag} {elts : List Expr} {kk : Nat} {tpos : Pos} (a e it : Addr) (he' : a ≠ e) (hi' : a ≠ it) :
    Turn P w K (.Tuple elts kk tpos) (ItE K a) [e, it] e (fun i h => (∃ old, IsEnum h e it ((i : Nat) : Int) old) ∧ h.IsTupleIter it a i ∧ e ≠ it) where
  mem := List.mem_cons_self
  obj := fun i h st b hb => by
    obtain ⟨⟨old, en⟩, ⟨o, ho, _, hd⟩, _⟩ := st
    rcases List.mem_cons.mp hb with z | z
    · rw [z]
      exact ⟨_, en, fun v q => by cases q⟩
    · rw [List.mem_singleton.mp z]
      exact ⟨o, ho, fun v q => by rw [hd] at q; cases q⟩
  keep := fun i h h' st k => by
    obtain ⟨⟨old, en⟩, ti, ne⟩ := st
    exact ⟨⟨old, k e (by simp) _ en⟩, ti.at fun o q => k it (by simp) o q, ne⟩
  item := by
    intro X hP hw hK hc i pins s σ H E I hf st hg
    subst hP hw hK
    obtain ⟨⟨old, en⟩, ti, ne⟩ := st
    obtain ⟨xs, x, hq, hx⟩ := hg
    obtain ⟨its, rv, p, hz⟩ := I.tuple hq
    obtain ⟨u, hu, ru⟩ := rv.get hx
    have lt_e : e < s.heap.objs.size := Heap.lt_size en
    have lt_i : it < s.heap.objs.size := by
      obtain ⟨_, q, _⟩ := ti
      exact Heap.lt_size q
    have hil : i < its.toArray.size := by
      have := (List.getElem?_eq_some_iff.mp hu).1
      simpa using this
    -- the tuple itself stands still: drawn from its own iterator
    have D := Draws.tuple (prog := X.prog) (w := X.w) (A := X.A.in1) (show X.A.in1.handled = none from I.ok.hd hc) it a hi' its.toArray
    by_cases hae : e ∈ [it, a]
    · rcases List.mem_cons.mp hae with z | z
      · exact absurd z ne
      · exact absurd (List.mem_singleton.mp z).symm he'
    refine wpAny_pyNext_enum_itemD D en ⟨ti, p⟩ hil ne hae fun y h' tk hy ho st' hT hsz hk => ?_
    have ey : u = y := by
      have hy' : its.toArray[i]? = some y := hy
      simp only [List.getElem?_toArray] at hy'
      rw [hu] at hy'
      exact Option.some.inj hy'
    subst ey
    refine ⟨_, rfl, wpAny_letOwnedTupleGo_enum (s := { s with heap := h', toks := tk + 1 }) ho fun h2 en2 sb => ?_⟩
    have hT2 : h2.get? s.heap.objs.size = some { cls := .type "tuple", data := .seq #[.int i tk, u] } := (sb.2 _ (Nat.ne_of_gt lt_e)).trans hT
    have hn : ObjOk X.prog X.w (upd H s.heap.objs.size (.tup [.int (i : Nat), x])) h2 s.heap.objs.size (.tup [.int (i : Nat), x]) :=
      ⟨show 2 ≤ sizeLine by decide, [.int i tk, u], .cons ⟨_, rfl⟩ (.cons ru .nil), ⟨_, hT2, rfl, _, rfl⟩⟩
    have I1 : Inv X pins σ (upd H s.heap.objs.size (.tup [.int (i : Nat), x])) { s with heap := h2, toks := tk + 1 } :=
      I.turnedNew (ch := [e, it]) (fun b ob hb q => by
        have n1 : b ≠ e := fun z => hb (by simp [z])
        have n2 : b ≠ it := fun z => hb (by simp [z])
        exact (sb.2 b n1).trans (hk b ob n1 n2 q)) hf (Nat.le_refl _) hn
    refine ⟨.ref s.heap.objs.size, _, I1, rfl, ⟨_, x, rfl, I.hok.fresh (Nat.le_refl _), rfl, fun ys hy => by rw [I.tuple_inj hy hq]; exact hx⟩, ⟨⟨u, ?_⟩, st'.1.at fun o q => (sb.2 it (Ne.symm ne)).trans q, ne⟩, fun b hb => ?_⟩
    · rw [show ((i + 1 : Nat) : Int) = (i : Int) + 1 by omega]
      exact en2
    · have lt_b : b < s.heap.objs.size := by
        rcases List.mem_cons.mp hb with z | z
        · rw [z]
          exact lt_e
        · rw [List.mem_singleton.mp z]
          exact lt_i
      rw [upd_ne (Nat.ne_of_lt lt_b)]
      exact (hf b hb).1
  done := by
    intro X hP hw hK hc i pins s σ H E I hf st hg
    subst hP hw hK
    obtain ⟨⟨old, en⟩, ti, ne⟩ := st
    obtain ⟨xs, hq, hx⟩ := hg
    obtain ⟨its, rv, p, hz⟩ := I.tuple hq
    obtain ⟨f0, f1, f2, f3, f4, f5⟩ := hf it (by simp)
    have ei : its.toArray[i]? = none := by
      have := rv.length
      simp
      omega
    -- nothing more is drawn
    have D : Draws X.prog X.w X.A.in1 it [it, a] i (fun _ _ => True) (fun j h => i ≤ j ∧ h.IsTupleIter it a j ∧ h.IsTuple a its.toArray) :=
      ⟨fun _ _ z => ⟨_, z.2.1.choose_spec.1⟩, fun _ _ _ z k => ⟨z.1, z.2.1.at fun o q => k it (by simp) o q, z.2.2.at fun o q => k a (by simp) o q⟩, fun j s Q E lt z => absurd z.1 (Nat.not_le_of_lt lt),
        fun s Q E z k => wpAny_nextOf_tuple_end (show X.A.in1.handled = none from I.ok.hd hc) z.2.1 z.2.2 ei k⟩
    exact wpAny_pyNext_enum_endD D en ⟨Nat.le_refl i, ti, p⟩ fun h' eb => ⟨rfl, I.turned (t' := s.toks) (fun b o hb q => eb b o hb q) f0 f1 f3 f4 f5⟩
  self := fun A i s Q E st h => by
    obtain ⟨⟨_, en⟩, _⟩ := st
    exact wpAny_pyIter_enum en h
def iEnumT (K : PySem.W.Frag) (ta : TA) : TI := fun σ H R => ta σ H fun vs H1 => ∃ a xs, vs = [.ref a] ∧ SqT K H1 a xs ∧ R (ItE K a) H1
theorem pi_enumT {X : Cx} {e : Expr} {ta : TA} {p pos tpos : Pos} {elts : List Expr} {kk : Nat} (hg : Gl X "enumerate") (hm : X.mg "enumerate" = none) (ha : PA X [e] ta) (hs : starEach [e] X.env = [(false, eval e X.env)] := by rfl) :
    PI X (.Tuple elts kk tpos) (.Call (.Name "enumerate" p) [e] [] pos) (iEnumT X.K ta) := by
  constructor
  intro pins s σ H R I h
  refine Call_ (ld_blt I hg hm boot_enumerate (PyProof.Rows.callWith_type1 (thn (ha.run pos pins s σ H _ I h) ?_) hs rfl))
  rintro us s1 ⟨_, H1, I1, r1, a, xs, rfl, hq, q⟩
  obtain ⟨u, rfl, r⟩ := vals1 r1
  cases r
  obtain ⟨its, rv, p', hz⟩ := I1.tuple hq
  have la : a < s1.heap.objs.size := by
    obtain ⟨_, w, _⟩ := p'
    exact Heap.lt_size w
  refine call_enumT (show s1.heap.IsTuple a its.toArray from p') fun h' en hit hsz hk => wpAny_pyIter_enum en ?_
  have I2 : Inv X pins σ H1 { s1 with heap := h' } := I1.kept (t' := s1.toks) hk
  refine ⟨_, [s1.heap.objs.size + 1, s1.heap.objs.size], _, _, H1, rfl, I2, turn_enumT a (s1.heap.objs.size + 1) s1.heap.objs.size (Nat.ne_of_lt (Nat.lt_succ_of_lt la)) (Nat.ne_of_lt la), ⟨⟨.none, en⟩, hit, Nat.succ_ne_self _⟩, fun b hb => ?_, q⟩
  have hle : s1.heap.objs.size ≤ b := by
    rcases List.mem_cons.mp hb with z | z
    · rw [z]
      exact Nat.le_succ _
    · rw [List.mem_singleton.mp z]
      exact Nat.le_refl _
  exact I1.fpOk hle (I1.hok.fresh hle)
theorem enumL_get : ∀ (k : Nat) (ds : List D) (i : Nat), (enumL k ds)[i]? = (ds[i]?).map fun d => D.tup [.int ((k + i : Nat) : Int), d]
  | k, [], i => by simp [enumL]
  | k, d :: ds, 0 => by simp [enumL]
  | k, d :: ds, i + 1 => by
    have := enumL_get (k + 1) ds i
    unfold enumL
    rw [List.getElem?_cons_succ, List.getElem?_cons_succ, this, show k + 1 + i = k + (i + 1) by omega]
theorem enumL_length : ∀ (k : Nat) (ds : List D), (enumL k ds).length = ds.length
  | k, [] => rfl
  | k, d :: ds => by rw [enumL, List.length_cons, List.length_cons, enumL_length (k + 1) ds]
abbrev iEnD (K : PySem.W.Frag) (ta : TA) : TI := fun σ H R => iEnum K ta σ H R ∨ iEnumT K ta σ H R
theorem itr_en {K : PySem.W.Frag} {F : Hp} {J : It} {vs : List V} {ds : List D} (hgo : ∀ H i x, FA F H → vs[i]? = some x → J.go i H) (hst : ∀ H i, FA F H → vs.length ≤ i → J.stop i H)
    (hy : ∀ H i v H', FA F H → J.yld i H v H' → ∃ T x, v = .ref T ∧ H T = none ∧ H' = upd H T (.tup [.int (i : Nat), x]) ∧ vs[i]? = some x) (hd : Dens K F ds vs) : Itr true K F (enumL 0 ds) J := by
  intro F' H ef eh i
  refine ⟨fun d hd' => ?_, fun hl => hst H i (FA.of ef eh.toFA) (by rw [← Dens.length hd]; rwa [enumL_length] at hl)⟩
  rw [enumL_get] at hd'
  obtain ⟨d0, h0, rfl⟩ := Option.map_eq_some_iff.mp hd'
  obtain ⟨v, h1, h2⟩ := Dens.get hd h0
  refine ⟨hgo H i v (FA.of ef eh.toFA) h1, fun x H' y => ?_⟩
  obtain ⟨T, x', rfl, hT, rfl, h3⟩ := hy H i x H' (FA.of ef eh.toFA) y
  rw [h1] at h3
  cases h3
  have g := Gr.new (o := .tup [.int (i : Nat), v]) eh hT
  refine ⟨_, g, show Denw _ _ _ _ from .inr ⟨_, T, _, rfl, rfl, .inl upd_same, .int (i : Nat), _, rfl, ?_, v, _, rfl, Den.mono (ef.trans g.f) d0 v h2, rfl⟩⟩
  show V.int _ = V.int _
  rw [Nat.zero_add]
theorem sn_enum {W : WX} {K : PySem.W.Frag} {me : MD} {ta : TA} (ha : Sn K W (Dens K) emp ta (mCons me mNil)) : Sn K W (Itr true K) emp (iEnD K ta) (mEnum me) := by
  intro F H σ env fp Q _ R h
  have fin : ∀ (t : TI) (P : D → Prop) (k : V → Hp → (It → Hp → Prop) → Prop), (∀ σ H R, t σ H R = ta σ H fun vs H1 => ∃ x, vs = [x] ∧ k x H1 R) →
      (∀ e x, me env = .ok x e → P x) → (∀ F1 H1 x v ds, FH F1 H1 → Den K F1 x v → P x → enumD x = some ds → ∀ R : It → Hp → Prop, (∀ J, Itr true K F1 ds J → R J H1) → k v H1 R) → t σ H Q := by
    intro t P k ht hP hk
    rw [ht]
    have hP' := hP
    refine ha F H σ env fp _ ex_emp R ?_
    unfold mEnum at h
    unfold mCons mNil
    generalize me env = r at h hP'
    cases r with
    | ok x e =>
      intro F1 H1 fp1 vs P1 R1 d1
      obtain ⟨v, rfl, d2⟩ := one_den d1
      have h1 := Out.step P1 h
      rw [Rs.bind_ok] at h1
      cases hi : enumD x with
      | none => rw [hi] at h1; exact h1.elim
      | some ds =>
        rw [hi] at h1
        exact ⟨v, rfl, hk F1 H1 x v ds R1.ex d2 (hP' e x rfl) hi _ fun J hJ => h1 F1 H1 fp1 J Po.refl R1 hJ⟩
    | exc x e => exact h
    | fail => exact h
  have L := fin (iEnum K ta) (fun x => (∃ ds, x = .lst ds) ∨ ∃ ns, x = .scr ns) (fun x H1 R => ∃ a xs, x = .ref a ∧ SqL K H1 a xs ∧ R (Ite K a) H1) (fun σ H R => by
    unfold iEnum
    congr
    funext vs H1
    apply propext
    exact ⟨fun ⟨a, xs, e1, z⟩ => ⟨.ref a, e1, a, xs, rfl, z⟩, fun ⟨x, e1, a, xs, e2, z⟩ => ⟨a, xs, by rw [e1, e2], z⟩⟩)
  have T := fin (iEnumT K ta) (fun x => ∃ ds, x = .tup ds) (fun x H1 R => ∃ a xs, x = .ref a ∧ SqT K H1 a xs ∧ R (ItE K a) H1) (fun σ H R => by
    unfold iEnumT
    congr
    funext vs H1
    apply propext
    exact ⟨fun ⟨a, xs, e1, z⟩ => ⟨.ref a, e1, a, xs, rfl, z⟩, fun ⟨x, e1, a, xs, e2, z⟩ => ⟨a, xs, by rw [e1, e2], z⟩⟩)
  have tup : (∀ e x, me env = .ok x e → ∃ ds, x = .tup ds) → iEnD K ta σ H Q := fun hP => .inr (T hP fun F1 H1 x v ds e1 d1 hx hi R k => by
    obtain ⟨ds', rfl⟩ := hx
    cases hi
    obtain ⟨a, o, vs, rfl, h1, _, h2⟩ := d1
    have hu : ∀ H, FA F1 H → SqT K H a vs := fun H eh => .inl (.inr ⟨o, eh.at_ _ _ h1 rfl⟩)
    refine ⟨a, vs, rfl, hu H1 e1.toFA, k _ (itr_en (vs := vs) (fun H i x eh hx => ⟨vs, x, hu H eh, hx⟩) (fun H i eh hl => ⟨vs, hu H eh, hl⟩) (fun H i v H' eh y => ?_) h2)⟩
    obtain ⟨T, x, a1, a2, a3, a4⟩ := y
    exact ⟨T, x, a1, a2, a3, a4 vs (hu H eh)⟩)
  have lst : ∀ (P : D → Prop), (∀ x, P x → (∃ ds, x = .lst ds) ∨ ∃ ns, x = .scr ns) → (∀ e x, me env = .ok x e → P x) → iEnD K ta σ H Q := fun P hPx hP => .inl (L (fun e x q => hPx x (hP e x q)) fun F1 H1 x v ds e1 d1 hx hi R k => by
    have main : ∀ (a : Addr) (vs : List V) (es : List D), (∀ H, FA F1 H → SqL K H a vs) → Dens K F1 es vs → ds = enumL 0 es → v = .ref a → ∃ a xs, v = .ref a ∧ SqL K H1 a xs ∧ R (Ite K a) H1 := fun a vs es hu h2 ed ev => by
      subst ed ev
      refine ⟨a, vs, rfl, hu H1 e1.toFA, k _ (itr_en (vs := vs) (fun H i x eh hx => ⟨vs, x, hu H eh, hx⟩) (fun H i eh hl => ⟨vs, hu H eh, hl⟩) (fun H i v H' eh y => ?_) h2)⟩
      obtain ⟨T, x, a1, a2, a3, a4⟩ := y
      exact ⟨T, x, a1, a2, a3, a4 vs (hu H eh)⟩
    rcases hx with ⟨ds', rfl⟩ | ⟨ns, rfl⟩
    · cases hi
      obtain ⟨a, vs, rfl, h1, h2⟩ := d1
      exact main a vs _ (fun H eh => .inl (eh.rd h1)) h2 rfl rfl
    · cases hi
      obtain ⟨a, rfl, h1⟩ := d1
      exact main a _ _ (fun H eh => eh.l h1) (dens_ints ns) rfl rfl)
  cases hm : me env with
  | ok x e =>
    cases x with
    | tup ds => exact tup fun e' x' q => by rw [hm] at q; cases q; exact ⟨_, rfl⟩
    | lst ds => exact lst (fun x => (∃ ds, x = .lst ds) ∨ ∃ ns, x = .scr ns) (fun _ z => z) fun e' x' q => by rw [hm] at q; cases q; exact .inl ⟨_, rfl⟩
    | scr ds => exact lst (fun x => (∃ ds, x = .lst ds) ∨ ∃ ns, x = .scr ns) (fun _ z => z) fun e' x' q => by rw [hm] at q; cases q; exact .inr ⟨_, rfl⟩
    | _ =>
      unfold mEnum at h
      rw [hm] at h
      exact h.elim
  | exc x e => exact tup fun e' x' q => by rw [hm] at q; cases q
  | fail =>
    unfold mEnum at h
    rw [hm] at h
    exact h.elim
theorem pdi_enum {X : Cx} {W : WX} {e : Expr} {ta : TA} {me : MD} {p pos tpos : Pos} {elts : List Expr} {kk : Nat} (hg : Gl X "enumerate") (hm : X.mg "enumerate" = none) (ha : PDA X W [e] ta (mCons me mNil)) (hs : starEach [e] X.env = [(false, eval e X.env)] := by rfl) :
    PDI true X W (.Tuple elts kk tpos) (.Call (.Name "enumerate" p) [e] [] pos) (iEnD X.K ta) (mEnum me) := ⟨pi_or (pi_enum hg hm ha.pa hs) (pi_enumT hg hm ha.pa hs), sn_enum ha.sn⟩
end DD
namespace DD
open PySem PySem.Spec PyProof.Rows L2
section
variable {K : PySem.W.Frag} {F F' H H' : Hp} {σ : L2.St} {env : DEnv} {fp : List Addr}
theorem owns_length : ∀ {os : List O} {vs : List V} {fp : List Addr}, OwnsAt K F H os vs fp → os.length = vs.length
  | [], vs, fp, ⟨h, _⟩ => by rw [h]; rfl
  | o :: os, vs, fp, ⟨x, xs, f1, f2, r, s, h, t⟩ => by rw [r, List.length_cons, List.length_cons, owns_length t]
theorem owns_append : ∀ {os us : List O} {vs ws : List V} {fp gp : List Addr}, OwnsAt K F H os vs fp → OwnsAt K F H us ws gp → OwnsAt K F H (os ++ us) (vs ++ ws) (fp ++ gp)
  | [], us, vs, ws, fp, gp, ⟨h, e⟩, k => by
    subst h e
    exact k
  | o :: os, us, vs, ws, fp, gp, ⟨x, xs, f1, f2, r, s, h, t⟩, k => by
    subst r s
    exact ⟨x, xs ++ ws, f1, f2 ++ gp, rfl, by simp, h, owns_append t k⟩
theorem owns_snoc {os : List O} {d : D} {vs : List V} {v : V} {fp : List Addr} (h : OwnsAt K F H os vs fp) (k : Den K F d v) : OwnsAt K F H (os ++ [.d d]) (vs ++ [v]) fp := by
  have := owns_append h (us := [.d d]) (ws := [v]) (gp := []) ⟨v, [], [], [], rfl, rfl, ⟨k, rfl⟩, rfl, rfl⟩
  rwa [List.append_nil] at this
theorem owns_upd {os : List O} {vs : List V} {fr : List Addr} {a : Addr} {u : HO} (h : OwnsAt K F H os vs fr) (nd : (a :: fr).Nodup) : OwnsAt K F (upd H a u) os vs fr :=
  OwnsAt.mono (Ex.refl _) os vs fr (fun b hb => upd_ne fun z => (List.nodup_cons.mp nd).1 (z ▸ hb)) h
end
/-- dead code -/
theorem pds_dead {X : Cx} {W : WX} {fx : List Nat} {st : Stmt} : PDS X W fx st (fun _ _ _ => False) (fun _ => .fail) := ⟨⟨fun _ _ _ _ _ _ h => h.elim⟩, fun _ _ _ _ _ _ _ h => h⟩
section
variable {X : Cx} {W : WX} {fx : List Nat} {pos apos npos : Pos} {x : Str} {e : Expr} {te : TE} {me : MD} {i : Nat}
def mApp (i : Nat) (me : MD) : MS := fun env => match env[i]? with
  | some (some (.lst _)) => (me env).on fun d e => (match e[i]? with
    | some (some (.lst os)) => if os.length < sizeLine then .nx (e.set i (some (.lst (os ++ [.d d])))) else .fail
    | _ => .fail)
  | _ => .fail
theorem pds_append (hx : PE X (.Name x npos) (tVar i)) (he : PD X W e te me)
    (hbase : attributeBase (.Name x npos) "append" X.env (eval (.Name x npos) X.env) = eval (.Name x npos) X.env := by rfl)
    (hfew : ((backTo pos (starEach [e] X.env)).all (fun x => !x.1) && (backToKw pos (keywordEach [] X.env)).all (fun x => x.1.isSome)
      && decide ([e].length + ([] : List Keyword).length + (if ([] : List Keyword).isEmpty then 0 else 1) < 30)) = true := by rfl)
    (hline : (apos.endLine == pos.line) = true := by rfl) (hs : starEach [e] X.env = (false, eval e X.env) :: starEach [] X.env := by rfl) (hplain : (backTo pos (starEach [] X.env)).any (·.1) = false := by rfl)
    (hsw : swapsWith (.Call (.Attribute (.Name x npos) "append" apos) [e] [] pos) none pos.line X.env = pure false := by rfl) :
    PDS X W fx (.Expr (.Call (.Attribute (.Name x npos) "append" apos) [e] [] pos) pos) (tDrop (tBM X.K "list" rAppend (tVar i) (tCons te tNil))) (mApp i me) := by
  refine ⟨ps_expr (pe_bm F.plainAttrs_list F.slot_list_append F.type_list_append mt_append hx (pa_cons he.pe pa_nil hs) hbase hfew hline hs hplain) hsw, fun F H σ env fp D' R h => ?_⟩
  unfold mApp at h
  split at h
  case h_2 => exact h.elim
  rename_i os0 e0
  obtain ⟨v0, f00, s0, ⟨a0, vs0, fr0, ev0, _, h0, _⟩, _⟩ := R.own e0
  subst ev0
  refine ⟨.ref a0, s0, .inl ⟨rfl, vs0, .inl (.inl h0)⟩, ?_⟩
  refine he.sn.goS ex_emp R h fun F1 H1 fp1 env1 d v P1 R1 d1 h1 => ?_
  split at h1
  case h_2 => exact h1.elim
  rename_i os e1
  obtain ⟨v1, f01, s1, ⟨a1, vs1, fr1, ev1, ef1, hH1, ow1⟩, nd1, _, up⟩ := R1.own e1
  subst ev1 ef1
  rw [s0] at s1
  cases s1
  by_cases hz : os.length < sizeLine
  · rw [if_pos hz] at h1
    refine ⟨a0, vs1, v, rfl, rfl, hH1, by rw [← owns_length ow1]; exact hz, ?_⟩
    obtain ⟨fp2, R2, P2⟩ := up a0 (.lst (vs1 ++ [v])) (.lst (os ++ [.d d])) List.mem_cons_self ⟨a0, vs1 ++ [v], fr1, rfl, rfl, upd_same, owns_snoc (owns_upd ow1 nd1) d1⟩
    exact h1 F1 _ σ fp2 P2 Fx.refl R2
  · rw [if_neg hz] at h1
    exact h1.elim
def rExtR : V → List V → Hp → VK → Prop := fun x vs H Q => ∃ l b xs zs, x = .ref l ∧ vs = [.ref b] ∧ H l = some (.lst xs) ∧ Rd H b (.lst zs) ∧ xs.length + zs.length ≤ sizeLine ∧ Q .non (upd H l (.lst (xs ++ zs)))
theorem mt_extR : MtM X "list.extend" rExtR := by
  intro pins s σ H x vs v us Q I rx rv h
  obtain ⟨l, b, xs, zs, rfl, rfl, hH, hB, hz, q⟩ := h
  cases rx
  obtain ⟨u, rfl, ru⟩ := rv.one
  cases ru
  obtain ⟨z, its, n, r, hl, e⟩ := I.lstM hH
  obtain ⟨z2, its2, n2, r2, e2⟩ := hB.ok I.hok
  have hl2 := r2.length
  have room : its.toArray.size + its2.toArray.size ≤ sizeLine := by
    simp only [List.size_toArray]
    omega
  have notLong : ¬ (!its.toArray.isEmpty && Builtin.List.listTooLong (its.toArray.size + its2.toArray.size)) = true := by
    rw [notLongL room]
    simp
  refine call_meets F.slot_list_extend ⟨_, e, rfl⟩ F.entry_list_extend (F.args_list_extend_2 _ _)
    (AutoSeq1.list_extend_list_list_0 l its.toArray n b its2.toArray n2 notLong (by simp only [List.size_toArray]; omega) (by omega)) ⟨e, e2, ?_⟩
  exact ⟨.non, _, I.lset (its' := its ++ its2) hH e (by simp) (r.append r2) (by rw [List.length_append]; exact hz), rfl, q⟩
def mExt (i : Nat) (me : MD) : MS := fun env => match env[i]? with
  | some (some (.lst _)) => (me env).on fun d e => (match d, e[i]? with
    | .lst ds, some (some (.lst os)) => if os.length + ds.length ≤ sizeLine then .nx (e.set i (some (.lst (os ++ ds.map .d)))) else .fail
    | _, _ => .fail)
  | _ => .fail
theorem pds_extend (hx : PE X (.Name x npos) (tVar i)) (he : PD X W e te me)
    (hbase : attributeBase (.Name x npos) "extend" X.env (eval (.Name x npos) X.env) = eval (.Name x npos) X.env := by rfl)
    (hfew : ((backTo pos (starEach [e] X.env)).all (fun x => !x.1) && (backToKw pos (keywordEach [] X.env)).all (fun x => x.1.isSome)
      && decide ([e].length + ([] : List Keyword).length + (if ([] : List Keyword).isEmpty then 0 else 1) < 30)) = true := by rfl)
    (hline : (apos.endLine == pos.line) = true := by rfl) (hs : starEach [e] X.env = (false, eval e X.env) :: starEach [] X.env := by rfl) (hplain : (backTo pos (starEach [] X.env)).any (·.1) = false := by rfl)
    (hsw : swapsWith (.Call (.Attribute (.Name x npos) "extend" apos) [e] [] pos) none pos.line X.env = pure false := by rfl) :
    PDS X W fx (.Expr (.Call (.Attribute (.Name x npos) "extend" apos) [e] [] pos) pos) (tDrop (tBM X.K "list" rExtR (tVar i) (tCons te tNil))) (mExt i me) := by
  refine ⟨ps_expr (pe_bm F.plainAttrs_list F.slot_list_extend F.type_list_extend mt_extR hx (pa_cons he.pe pa_nil hs) hbase hfew hline hs hplain) hsw, fun F H σ env fp D' R h => ?_⟩
  unfold mExt at h
  split at h
  case h_2 => exact h.elim
  rename_i os0 e0
  obtain ⟨v0, f00, s0, ⟨a0, vs0, fr0, ev0, _, h0, _⟩, _⟩ := R.own e0
  subst ev0
  refine ⟨.ref a0, s0, .inl ⟨rfl, vs0, .inl (.inl h0)⟩, ?_⟩
  refine he.sn.goS ex_emp R h fun F1 H1 fp1 env1 d v P1 R1 d1 h1 => ?_
  split at h1
  case h_2 => exact h1.elim
  rename_i ds os e1
  obtain ⟨v1, f01, s1, ⟨a1, vs1, fr1, ev1, ef1, hH1, ow1⟩, nd1, _, up⟩ := R1.own e1
  subst ev1 ef1
  rw [s0] at s1
  cases s1
  by_cases hz : os.length + ds.length ≤ sizeLine
  · rw [if_pos hz] at h1
    obtain ⟨b, ws, rfl, hb, dw⟩ := d1
    refine ⟨a0, b, vs1, ws, rfl, rfl, hH1, R1.ex.rd hb, by rw [← owns_length ow1, ← Dens.length dw]; exact hz, ?_⟩
    have ow2 := owns_append (owns_upd (u := .lst (vs1 ++ ws)) ow1 nd1) (owns_map (H := upd H1 a0 (.lst (vs1 ++ ws))) dw)
    rw [List.append_nil] at ow2
    obtain ⟨fp2, R2, P2⟩ := up a0 (.lst (vs1 ++ ws)) (.lst (os ++ ds.map .d)) List.mem_cons_self ⟨a0, vs1 ++ ws, fr1, rfl, rfl, upd_same, ow2⟩
    exact h1 F1 _ σ fp2 P2 Fx.refl R2
  · rw [if_neg hz] at h1
    exact h1.elim
theorem owns_set {K : PySem.W.Frag} {F H : Hp} {d : D} {v : V} (k : Den K F d v) : ∀ {os : List O} {vs : List V} {fp : List Addr} (j : Nat) {y : D}, OwnsAt K F H os vs fp → os[j]? = some (.d y) → OwnsAt K F H (os.set j (.d d)) (vs.set j v) fp
  | [], _, _, j, y, _, e => by simp at e
  | o :: os, vs, fp, 0, y, ⟨x, xs, f1, f2, r, s, h, t⟩, e => by
    have e' : o = .d y := by simpa using e
    subst e' r s
    exact ⟨v, xs, f1, f2, rfl, rfl, ⟨k, h.2⟩, t⟩
  | o :: os, vs, fp, j + 1, y, ⟨x, xs, f1, f2, r, s, h, t⟩, e => by
    subst r s
    exact ⟨x, _, f1, f2, rfl, rfl, h, owns_set k j t (by simpa using e)⟩
def gIx (i : Nat) (mi : MD) : D → DEnv → Option DEnv := fun d env => match mi env with
  | .ok (.int k) e => (match e[i]? with
    | some (some (.lst os)) => (setO os k d).map fun os' => e.set i (some (.lst os'))
    | _ => none)
  | _ => none
theorem pdg_ix {o ie : Expr} {ti : TE} {mi : MD} {p : Pos} (hx : PE X o (tVar i)) (hi : PD X W0 ie ti mi)
    (ha : ∀ v, assign (.Subscript o ie p) X.env v = (do
      let ov ← holding [v] (eval o X.env)
      let iv ← holding [v, ov] (eval ie X.env)
      standAt p
      holding [v, ov, iv] (setItem ov iv v)
      release [v, ov, iv] []) := by intro _; rfl) (hp : ∀ env d e', mi env = .ok d e' → e'[i]? = env[i]? := by intro _ _ _ h; first | (cases h; rfl) | assumption) : PDG false X [] (.Subscript o ie p) (gSub (tVar i) ti rSetL) (gIx i mi) := by
  refine ⟨pg_sub hx hi.pe set_list ha, fun F H σ env env' fp d v Q R hd he k => ?_⟩
  unfold gIx at he
  split at he
  case h_2 => cases he
  rename_i kk e1 hm
  split at he
  case h_2 => cases he
  rename_i os e2
  obtain ⟨os', hset, rfl⟩ := Option.map_eq_some_iff.mp he
  have e0 : env[i]? = some (some (.lst os)) := by rw [← hp _ _ _ hm]; exact e2
  obtain ⟨v0, f00, s0, ⟨a0, vs0, fr0, ev0, _, h0, _⟩, _⟩ := R.own e0
  subst ev0
  refine ⟨.ref a0, s0, ?_⟩
  refine hi.sn F H σ env fp _ ex_emp R ?_
  rw [hm]
  intro F1 H1 fp1 iv P1 R1 d1
  have d1' : iv = .int kk := d1
  subst d1'
  obtain ⟨v1, f01, s1, ⟨a1, vs1, fr1, ev1, ef1, hH1, ow1⟩, nd1, _, up⟩ := R1.own e2
  subst ev1 ef1
  rw [s0] at s1
  cases s1
  unfold setO at hset
  obtain ⟨j, hj, hset⟩ := Option.bind_eq_some_iff.mp hset
  split at hset
  case h_2 => cases hset
  rename_i y hy
  cases hset
  refine ⟨a0, vs1, kk, j, rfl, rfl, hH1, by rw [← owns_length ow1]; exact hj, ?_⟩
  have dv : Den X.K F1 d v := Den.mono P1.f d v hd
  obtain ⟨fp2, R2, P2⟩ := up a0 (.lst (vs1.set j v)) (.lst (os.set j (.d d))) List.mem_cons_self ⟨a0, _, fr1, rfl, rfl, upd_same, owns_set dv j (owns_upd ow1 nd1) hy⟩
  exact k F1 _ σ fp2 (P1.trans P2) R2 rfl fun _ _ => rfl
theorem pdo_of (h : PD X W e te me) : PDO X W e te (mD me) := by
  refine ⟨h.pe, fun F H σ env fp Q R hq => ?_⟩
  unfold mD at hq
  refine h.sn F H σ env fp _ ex_emp R ?_
  cases hm : me env with
  | ok d e1 =>
    rw [hm] at hq
    exact fun F' H' fp' v P R' dv => hq F' H' [] fp' v P ⟨R'.ex, R'.at_, ⟨dv, rfl⟩, by simpa using R'.nd, by simpa using R'.out⟩
  | exc y e1 =>
    rw [hm] at hq
    exact hq
  | fail =>
    rw [hm] at hq
    exact hq
/-- two things aside -/
theorem RelO.frame2 {K : PySem.W.Frag} {F F' H H' : Hp} {σ σ' : L2.St} {env env' : DEnv} {f1 f2 g1 g2 : List Addr} {o o' : O} {v v' : V} (R : RelO K F H σ env f1 f2 o v) (P : Po F H f2 F' H' (g1 ++ g2)) (R' : RelO K F' H' σ' env' g1 g2 o' v') :
    RelO K F' H' σ' env' f1 g2 o v ∧ (∀ a ∈ f1, a ∉ g1) ∧ Po F H (f1 ++ f2) F' H' (f1 ++ (g1 ++ g2)) := by
  have nd := List.nodup_append.mp R.nd
  have ne : ∀ a ∈ f1, a ∉ f2 := fun a ha hb => nd.2.2 a ha a hb rfl
  have dom := OwnAt.dom o v f1 R.own
  have ne' : ∀ a ∈ f1, a ∉ g1 ++ g2 := fun a ha hb => by
    rcases P.fresh a hb with z | z
    · exact ne a ha z
    · obtain ⟨u, hu⟩ := dom a ha
      rw [hu.e] at z
      cases z
  refine ⟨⟨R'.ex, R'.at_, OwnAt.mono P.f o v f1 (fun a ha => ?_) R.own, List.nodup_append.mpr ⟨nd.1, (List.nodup_append.mp R'.nd).2.1, fun a ha b hb e => ne' a ha (List.mem_append_right _ (e ▸ hb))⟩, fun a ha => ?_⟩,
    fun a ha hb => ne' a ha (List.mem_append_left _ hb), ⟨P.f, fun a u h n => P.keep a u h fun z => n (List.mem_append_right _ z), fun a ha => ?_, fun a u h1 h2 n => P.out a u h1 h2 fun z => n (List.mem_append_right _ z)⟩⟩
  · obtain ⟨u, hu⟩ := dom a ha
    rw [hu.e, (P.keep a u hu.e (ne a ha)).of (tb_tp hu.n)]
  · rcases List.mem_append.mp ha with z | z
    · obtain ⟨u, hu⟩ := dom a z
      exact P.out a u (R.out a (List.mem_append_left _ z)) hu (ne a z)
    · exact R'.out a (List.mem_append_right _ z)
  · rcases List.mem_append.mp ha with z | z
    · exact .inl (List.mem_append_left _ z)
    · exact (P.fresh a z).imp (List.mem_append_right _) id
theorem par_core {K : PySem.W.Frag} {F H : Hp} {σ : L2.St} {env : DEnv} {fp : List Addr} {D' : Ends} {i j : Nat} {ta tb : TE} {ma mb : MO} {Q : V → V → Hp → Prop} (ha : SnO K W ta ma) (hb : SnO K W tb mb) (R : Rel K F H σ env fp) (h : OutS K W fx F H σ fp D' (mPar2 i j ma mb env))
    (hQ : ∀ F' H' fp' env' v w, Po F H fp F' H' fp' → Rel K F' H' ((σ.set i (some v)).set j (some w)) env' fp' → (∀ F3 H3 σ3 fp3, Po F' H' fp' F3 H3 fp3 → Fx fx σ σ3 → Rel K F3 H3 σ3 env' fp3 → D'.nx σ3 H3) → Q v w H') : ta σ H fun v H1 => tb σ H1 fun w H2 => Q v w H2 := by
  refine ha.goS R h fun F1 H1 f1 f2 env1 o v P1 R1 h1 => ?_
  refine hb F1 H1 σ env1 f2 _ R1.rel ?_
  cases hm : mb env1 with
  | fail =>
    rw [hm] at h1
    exact h1.elim
  | exc z e2 =>
    rw [hm] at h1
    intro F' H' fp' c dd P R' hz
    exact h1 F' H' σ fp' c dd ⟨P.f, fun a u h n => P.keep a u h fun z => n (List.mem_append_right _ z), fun a ha => (P.fresh a ha).imp (List.mem_append_right _) id, fun a u g1 g2 n => P.out a u g1 g2 fun z => n (List.mem_append_right _ z)⟩ Fx.refl R' hz
  | ok o' e2 =>
    rw [hm] at h1
    intro F2 H2 g1 g2 w P2 R2
    rw [Rs.on_ok] at h1
    by_cases hl : i < e2.length ∧ j < e2.length
    · rw [if_pos hl] at h1
      obtain ⟨R3, apart, P3⟩ := R1.frame2 P2 R2
      -- the first into its slot, the second aside
      obtain ⟨q1, R4, s4⟩ := R3.set hl.1
      have nd2 := List.nodup_append.mp R2.nd
      have R5 : RelO K F2 H2 (σ.set i (some v)) (e2.set i (some o)) g1 q1 o' w := ⟨R4.ex, R4.at_, R2.own, List.nodup_append.mpr ⟨nd2.1, R4.nd, fun a ha b hb e => by
        subst e
        rcases List.mem_append.mp (s4 a hb) with z | z
        · exact apart a z ha
        · exact nd2.2.2 a ha a z rfl⟩, fun a ha => by
        rcases List.mem_append.mp ha with z | z
        · exact R2.out a (List.mem_append_left _ z)
        · exact R4.out a z⟩
      obtain ⟨q2, R6, s6⟩ := R5.set (i := j) (by rw [List.length_set]; exact hl.2)
      have P6 : Po F1 H1 (f1 ++ f2) F2 H2 q2 := P3.trans (Po.sub fun a ha => by
        rcases List.mem_append.mp (s6 a ha) with z | z
        · exact List.mem_append_right _ (List.mem_append_left _ z)
        · rcases List.mem_append.mp (s4 a z) with z | z
          · exact List.mem_append_left _ z
          · exact List.mem_append_right _ (List.mem_append_right _ z))
      exact hQ F2 H2 q2 _ v w (P1.trans P6) R6 fun F3 H3 σ3 fp3 P x R' => h1 F3 H3 σ3 fp3 (P6.trans P) x R'
    · rw [if_neg hl] at h1
      exact h1.elim
theorem pds_par2 {i j : Nat} {x y : Str} {a b : Expr} {ta tb : TE} {ma mb : MO} {px py pt : Pos} {kt k2 pt2} (hij : i ≠ j)
    (hps : PS X (.Assign [.Tuple [.Name x px, .Name y py] kt pt] (.Tuple [a, b] k2 pt2) pos) (tPar i j (tCons ta (tCons tb tNil)))) (ha : PDO X W a ta ma) (hb : PDO X W b tb mb) (hf : i ∉ fx := by decide) (hg : j ∉ fx := by decide) :
    PDS X W fx (.Assign [.Tuple [.Name x px, .Name y py] kt pt] (.Tuple [a, b] k2 pt2) pos) (tPar i j (tCons ta (tCons tb tNil))) (mPar2 i j ma mb) := by
  refine ⟨hps, fun F H σ env fp D' R h => ?_⟩
  exact par_core (Q := fun v w H2 => ∃ v' w', [v, w] = [v', w'] ∧ D'.nx ((σ.set i (some v')).set j (some w')) H2) ha.sn hb.sn R h fun F' H' fp' env' v w P R' k => ⟨v, w, rfl, k F' H' _ fp' Po.refl ((Fx.set hf).trans (Fx.set hg)) R'⟩
theorem pdo_lst {es : List Expr} {t : TA} {m : MA} (h : PDA X W es t m) : PDO X W (.List es pos) (tLst t) (mLstO m) := by
  refine ⟨pe_lst h.pa, fun F H σ env fp Q R hq => ?_⟩
  unfold mLstO at hq
  refine h.sn F H σ env fp _ ex_emp R ?_
  cases hm : m env with
  | ok ds e1 =>
    rw [hm] at hq
    rw [Rs.bind_ok] at hq
    intro F1 H1 fp1 vs P1 R1 dv
    by_cases hz : ds.length ≤ sizeLine
    · rw [if_pos hz] at hq
      refine ⟨by rw [← Dens.length dv]; exact hz, fun p hp => ?_⟩
      obtain ⟨N0, N1⟩ := R1.newO (o := oL ds) hp (own_oL upd_same dv)
      exact hq F1 _ [p] fp1 (.ref p) (P1.trans N1) N0
    · rw [if_neg hz] at hq
      exact hq.elim
  | exc y e1 =>
    rw [hm] at hq
    exact hq
  | fail =>
    rw [hm] at hq
    exact hq
end
end DD
namespace DD
open PySem PySem.Spec PyProof.Rows L2
/-- nothing on the heap -/
def flatD : D → Bool
  | .non => true
  | .bl _ => true
  | .int _ => true
  | .str _ => true
  | _ => false
theorem flat_den {K : PySem.W.Frag} {F F' : Hp} : ∀ {d : D} {v : V}, flatD d = true → Den K F d v → Den K F' d v
  | .non, _, _, h => h
  | .bl _, _, _, h => h
  | .int _, _, _, h => h
  | .str _, _, _, h => h
section
variable {K : PySem.W.Frag} {F F' H H' : Hp} {σ : L2.St} {env : DEnv} {fp : List Addr}
theorem Rel.peek {i : Nat} {o : O} (R : Rel K F H σ env fp) (e : env[i]? = some (some o)) (hnd : noD o = true) :
    ∃ v F', σ[i]? = some (some v) ∧ Ex F F' ∧ FH F' H ∧ Den K F' (fz o) v ∧ ∀ F2 H2, Gr F' H F2 H2 → ∃ F3, Po F H fp F3 H2 fp ∧ Rel K F3 H2 σ env fp := by
  obtain ⟨v, f0, fr, s1, own, nd, out0, sub, _, _⟩ := R.split e
  have e1 : Ex F (frzF F H f0) := frzF_ex out0
  have lk : Lk f0 H H := Lk.refl (OwnAt.nodc o v f0 hnd own)
  refine ⟨v, frzF F H f0, s1, e1, frzF_fh R.ex lk out0 (fun a ha => OwnAt.dom o v f0 own a ha), OwnAt.fz e1 lk o v f0 (fun a ha => ⟨ha, frzF_in ha⟩) own, fun F2 H2 g => ?_⟩
  -- what is owned taken out of the ground again
  let F3 : Hp := fun a => if a ∈ f0 then none else F2 a
  have f3in : ∀ a, a ∈ f0 → F3 a = none := fun a ha => if_pos ha
  have f3ne : ∀ a, a ∉ f0 → F3 a = F2 a := fun a ha => if_neg ha
  have hF3 : Ex F F3 := fun a u h => by
    have ha : a ∉ f0 := fun z => by rw [out0 a z] at h; cases h
    rw [f3ne a ha]
    exact g.f a u (e1 a u h)
  have out3 : ∀ a u, F a = none → Hs H a u → F3 a = none := fun a u h1 h2 => by
    by_cases ha : a ∈ f0
    · exact f3in a ha
    · rw [f3ne a ha]
      exact g.out a u (by rw [frzF_ne ha]; exact h1) h2
  refine ⟨F3, ⟨hF3, fun a u h _ => g.h a u h, fun a h => .inl h, fun a u h1 h2 _ => out3 a u h1 h2⟩, ⟨⟨⟨fun a u h n => ?_⟩, fun a pt h => ?_⟩, R.at_.mono hF3 fun a ha => ?_, R.nd, fun a ha => ?_⟩⟩
  · by_cases ha : a ∈ f0
    · rw [f3in a ha] at h
      cases h
    · rw [f3ne a ha] at h
      exact g.fh.at_ a u h n
  · by_cases ha : a ∈ f0
    · rw [f3in a ha] at h
      cases h
    · rw [f3ne a ha] at h
      obtain ⟨q, t, q1, pt', q2, q3, q4⟩ := g.fh.tb a pt h
      refine ⟨q, t, q1, pt', q2, q3, fun pos cv hc => ?_⟩
      obtain ⟨c, q5, q6⟩ := q4 pos cv hc
      refine ⟨c, q5, ?_⟩
      rw [f3ne c fun z => ?_]
      · exact q6
      · obtain ⟨u, hu⟩ := OwnAt.dom o v f0 own c z
        have q7 := (g.h c u hu.e).of (tb_tp hu.n)
        rw [g.fh.at_ c _ q6 rfl] at q7
        cases q7
        have := hu.n
        cases this
  · obtain ⟨u, hu⟩ := R.at_.dom a ha
    rw [hu.e, (g.h a u hu.e).of (tb_tp hu.n)]
  · obtain ⟨u, hu⟩ := R.at_.dom a ha
    exact out3 a u (R.out a ha) hu
end
def flatO (z : Option D) : Option D := match z with
  | some d => if flatD d = true then some d else none
  | none => none
theorem flatO_some {z : Option D} {d : D} (h : flatO z = some d) : z = some d ∧ flatD d = true := by
  unfold flatO at h
  cases z with
  | none => cases h
  | some x =>
    dsimp only at h
    split at h
    · rename_i hx
      cases h
      exact ⟨rfl, hx⟩
    · cases h
/-- f(slot i, b) -/
def mOpL (f : D → D → Option D) (i : Nat) (b : MD) : MD := fun env => match env[i]? with
  | some (some _) => (b env).bind fun y e => (match e[i]? with
    | some (some o) => if noD o = true then ofO (flatO (f (fz o) y)) e else .fail
    | _ => .fail)
  | _ => .fail
/-- f(b, slot i) -/
def mOpR (f : D → D → Option D) (a : MD) (i : Nat) : MD := fun env => (a env).bind fun x e => match e[i]? with
  | some (some o) => if noD o = true then ofO (flatO (f x (fz o))) e else .fail
  | _ => .fail
theorem sn_opL {K : PySem.W.Frag} {W : WX} {i : Nat} {tb : TE} {mb : MD} {r : R2} {f : D → D → Option D} (hb : Sn K W (Den K) emp tb mb) (hf : OpD K r f) : Sn K W (Den K) emp (tOp r (tVar i) tb) (mOpL f i mb) := by
  intro F H σ env fp Q _ R h
  unfold mOpL at h
  split at h
  case h_2 => exact h.elim
  rename_i o0 e0
  obtain ⟨v0, _, s0, _, _⟩ := R.own e0
  refine ⟨v0, s0, ?_⟩
  refine hb.go ex_emp R h fun F1 H1 fp1 env1 y u P1 R1 d1 h1 => ?_
  split at h1
  case h_2 => exact h1.elim
  rename_i o e1
  by_cases hnd : noD o = true
  case neg =>
    rw [if_neg hnd] at h1
    exact h1.elim
  rw [if_pos hnd] at h1
  obtain ⟨v1, F', s1, x1, x2, d2, back⟩ := R1.peek e1 hnd
  rw [s0] at s1
  cases s1
  cases hz : flatO (f (fz o) y) with
  | none => rw [hz] at h1; exact h1.elim
  | some z =>
    rw [hz] at h1
    obtain ⟨q1, q2⟩ := flatO_some hz
    refine hf F' H1 (fz o) y v0 u z x2 d2 (Den.mono x1 y u d1) q1 Q fun F2 H2 c g dc => ?_
    obtain ⟨F3, P3, R3⟩ := back F2 H2 g
    exact h1 F3 H2 fp1 c P3 R3 (flat_den q2 dc)
theorem sn_opR {K : PySem.W.Frag} {W : WX} {i : Nat} {ta : TE} {ma : MD} {r : R2} {f : D → D → Option D} (ha : Sn K W (Den K) emp ta ma) (hf : OpD K r f) : Sn K W (Den K) emp (tOp r ta (tVar i)) (mOpR f ma i) := by
  intro F H σ env fp Q _ R h
  unfold mOpR at h
  refine ha.go ex_emp R h fun F1 H1 fp1 env1 y u P1 R1 d1 h1 => ?_
  split at h1
  case h_2 => exact h1.elim
  rename_i o e1
  by_cases hnd : noD o = true
  case neg =>
    rw [if_neg hnd] at h1
    exact h1.elim
  rw [if_pos hnd] at h1
  obtain ⟨v1, F', s1, x1, x2, d2, back⟩ := R1.peek e1 hnd
  refine ⟨v1, s1, ?_⟩
  cases hz : flatO (f y (fz o)) with
  | none => rw [hz] at h1; exact h1.elim
  | some z =>
    rw [hz] at h1
    obtain ⟨q1, q2⟩ := flatO_some hz
    refine hf F' H1 y (fz o) u v1 z x2 (Den.mono x1 y u d1) d2 q1 Q fun F2 H2 c g dc => ?_
    obtain ⟨F3, P3, R3⟩ := back F2 H2 g
    exact h1 F3 H2 fp1 c P3 R3 (flat_den q2 dc)
section
variable {X : Cx} {W : WX} {fx : List Nat} {pos p apos npos : Pos} {x : Str} {a b e o : Expr} {es : List Expr} {ta tb te : TE} {ma mb me : MD} {t : TA} {m : MA} {i : Nat}
theorem pd_ixO {r : R2} {f : D → D → Option D} (ho : IxR X r) (hf : OpD X.K r f) (hx : PE X (.Name x npos) (tVar i)) (hi : PD X W b tb mb) (hs : PlainIx b := by exact fun _ _ => rfl) : PD X W (.Subscript (.Name x npos) b pos) (tOp r (tVar i) tb) (mOpL f i mb) := ⟨pe_ix ho hx hi.pe hs, sn_opL hi.sn hf⟩
theorem pd_cmpL {op : CmpOp} {r : R2} {f : D → D → Option D} (ho : OpR X (compareOp op) r) (hf : OpD X.K r f) (hx : PE X (.Name x npos) (tVar i)) (hb : PD X W b tb mb) (hm : behindInMarks op b = false := by first | exact nomark _ | rfl) : PD X W (.Compare (.Name x npos) [op] [b] pos) (tOp r (tVar i) tb) (mOpL f i mb) := ⟨pe_cmpR ho hx hb.pe hm, sn_opL hb.sn hf⟩
theorem pdt_cmpL {op : CmpOp} {r : R2} {f : D → D → Option D} (ho : OpR X (compareOp op) r) (hf : OpD X.K r f) (hx : PE X (.Name x npos) (tVar i)) (hb : PD X W b tb mb) (hm : behindInMarks op b = false := by first | exact nomark _ | rfl) : PDT X W (.Compare (.Name x npos) [op] [b] pos) (tTest (tOp r (tVar i) tb)) (mTest (mOpL f i mb)) := ⟨pt_cmpR ho hx hb.pe hm, sn_test (sn_opL hb.sn hf)⟩
theorem pdt_cmpRt {op : CmpOp} {r : R2} {f : D → D → Option D} (ho : OpR X (compareOp op) r) (hf : OpD X.K r f) (ha : PD X W a ta ma) (hx : PE X (.Name x npos) (tVar i)) (hm : behindInMarks op (.Name x npos) = false := by first | exact nomark _ | rfl) : PDT X W (.Compare a [op] [.Name x npos] pos) (tTest (tOp r ta (tVar i))) (mTest (mOpR f ma i)) := ⟨pt_cmpR ho ha.pe hx hm, sn_test (sn_opR ha.sn hf)⟩
def fldD (C f : Str) : D → Option D
  | .ins C' ns ds => if C' = C then (ns.zip ds).lookup f else none
  | _ => none
theorem zip_lookup {K : PySem.W.Frag} {F : Hp} {f : Str} {d : D} : ∀ {ns : List Str} {ds : List D} {vs : List V}, Dens K F ds vs → (ns.zip ds).lookup f = some d → ∃ v, (ns.zip vs).lookup f = some v ∧ Den K F d v
  | [], ds, vs, h, e => by simp at e
  | n :: ns, [], vs, h, e => by simp at e
  | n :: ns, d0 :: ds, vs, ⟨x, xs, r, s, t⟩, e => by
    subst r
    rw [List.zip_cons_cons, List.lookup_cons] at e ⊢
    split at e
    · rename_i he
      cases e
      exact ⟨x, rfl, s⟩
    · rename_i he
      exact zip_lookup t e
def mFld (C f : Str) (a : MD) : MD := mUn (fldD C f) a
theorem pd_fld {C f : Str} (c : Cls X.K (cadr X.K C)) (n : NoAttr X.K (cadr X.K C) f) (he : PD X W e te me) (hb : attributeBase e f X.env (eval e X.env) = eval e X.env := by rfl) : PD X W (.Attribute e f pos) (tFld X.K te f) (mFld C f me) := by
  refine ⟨pe_fld he.pe hb, fun F H σ env fp Q _ R h => ?_⟩
  refine he.sn.go ex_emp R h fun F1 H1 fp1 env1 d v P1 R1 d1 h1 => ?_
  obtain ⟨z, e1, k⟩ := out_ofO R1 h1
  match d, e1, d1 with
  | .ins C' ns ds, e1, ⟨a, dx, vs, r, s, l, t⟩ =>
    have e1' : (if C' = C then (ns.zip ds).lookup f else none) = some z := e1
    by_cases hC : C' = C
    · rw [if_pos hC] at e1'
      subst hC
      obtain ⟨u, h2, h3⟩ := zip_lookup t e1'
      exact ⟨a, _, dx, _, u, r, R1.ex.at_ _ _ s rfl, c, n, h2, k F1 H1 u (Gr.refl R1.ex) h3⟩
    · rw [if_neg hC] at e1'
      cases e1'
/-- x.f = e, the instance in slot i -/
def putO (f : Str) (d : D) : List Str → List O → Option (List Str × List O)
  | [], [] => some ([f], [.d d])
  | n :: ns, o :: os => if n = f then (match o with
    | .d _ => some (n :: ns, .d d :: os)
    | _ => none) else (putO f d ns os).map fun r => (n :: r.1, o :: r.2)
  | _, _ => none
theorem putO_at {K : PySem.W.Frag} {F H : Hp} {f : Str} {d : D} {v : V} (hd : Den K F d v) : ∀ {ns : List Str} {os : List O} {vs : List V} {fp : List Addr} {r : List Str × List O}, OwnsAt K F H os vs fp → ns.length = vs.length → putO f d ns os = some r →
    ∃ vs', putF f v (ns.zip vs) = r.1.zip vs' ∧ r.1.length = vs'.length ∧ OwnsAt K F H r.2 vs' fp
  | [], [], vs, fp, r, ⟨h1, h2⟩, l, e => by
    subst h1 h2
    cases e
    exact ⟨[v], rfl, rfl, v, [], [], [], rfl, rfl, ⟨hd, rfl⟩, rfl, rfl⟩
  | [], _ :: _, vs, fp, r, h, l, e => by cases e
  | _ :: _, [], vs, fp, r, h, l, e => by cases e
  | n :: ns, o :: os, vs, fp, r, ⟨x, xs, f1, f2, rv, s, h, t⟩, l, e => by
    subst rv
    unfold putO at e
    rw [List.zip_cons_cons]
    unfold putF
    by_cases hn : n = f
    · rw [if_pos hn] at e
      rw [if_pos hn]
      cases o with
      | d y =>
        cases e
        exact ⟨v :: xs, rfl, by simpa using l, v, xs, f1, f2, rfl, s, ⟨hd, h.2⟩, t⟩
      | _ => cases e
    · rw [if_neg hn] at e
      rw [if_neg hn]
      obtain ⟨r', e1, rfl⟩ := Option.map_eq_some_iff.mp e
      obtain ⟨vs', q1, q2, q3⟩ := putO_at hd t (by simpa using l) e1
      exact ⟨x :: vs', by rw [q1]; rfl, by simpa using q2, x, vs', f1, f2, rfl, s, h, q3⟩
def mSetA (i : Nat) (C f : Str) (me : MD) : MS := fun env => (me env).on fun d e => match e[i]? with
  | some (some (.ins C' ns os)) => if C' = C ∧ ns.length < 1000 then (match putO f d ns os with
    | some r => .nx (e.set i (some (.ins C r.1 r.2)))
    | none => .fail) else .fail
  | _ => .fail
theorem pds_setA {C f : Str} (c : Cls X.K (cadr X.K C)) (n : NoAttr X.K (cadr X.K C) f) (hx : PE X (.Name x npos) (tVar i)) (he : PD X W e te me) (hs : swapsWith e (some (.Attribute (.Name x npos) f apos)) pos.line X.env = pure false := by rfl) :
    PDS X W fx (.Assign [.Attribute (.Name x npos) f apos] e pos) (sFld X.K (tVar i) te f) (mSetA i C f me) := by
  refine ⟨ps_fld hx he.pe hs, fun F H σ env fp D' R h => ?_⟩
  refine he.sn.goS ex_emp R h fun F1 H1 fp1 env1 d v P1 R1 d1 h1 => ?_
  split at h1
  case h_2 => exact h1.elim
  rename_i C' ns os e0
  by_cases hC : C' = C ∧ ns.length < 1000
  · rw [if_pos hC] at h1
    obtain ⟨hC, hz⟩ := hC
    subst hC
    obtain ⟨v0, f0, s0, ⟨a, dx, vs, fr, ev, ef, hH, hl, ow⟩, nd, _, up⟩ := R1.own e0
    subst ev ef
    cases hp : putO f d ns os with
    | none => rw [hp] at h1; exact h1.elim
    | some r =>
      rw [hp] at h1
      refine ⟨.ref a, s0, a, _, dx, _, rfl, hH, c, n, ?_, ?_⟩
      · rw [List.length_zip]
        omega
      · obtain ⟨vs', q1, q2, q3⟩ := putO_at d1 (owns_upd (u := .ins (cadr X.K C') dx (putF f v (ns.zip vs))) ow nd) hl hp
        obtain ⟨fp2, R2, P2⟩ := up a (.ins (cadr X.K C') dx (putF f v (ns.zip vs))) (.ins C' r.1 r.2) List.mem_cons_self ⟨a, dx, vs', fr, rfl, rfl, by rw [upd_same, q1], q2, q3⟩
        exact h1 F1 _ σ fp2 P2 Fx.refl R2
  · rw [if_neg hC] at h1
    exact h1.elim
structure MakeD (P : Program) (w : World) (K : PySem.W.Frag) (mg : Str → Option Value) (base : Heap) (k : Nat) (x C : Str) (n : Nat) (f : O → List D → RI) : Prop where
  at_ : mg x = some (.ref (cadr K C))
  ex : ∃ g, Mk K (cadr K C) g ∧ FnD P w K mg base k g (spI K n f)
def mMake (C : Str) (f : O → List D → RI) (m : MA) : MO := fun env => (m env).bind fun ds e => match f (.ins C [] []) ds with
  | .ok .non o => .ok o e
  | .exc x _ => .exc x e
  | _ => .fail
theorem sno_make {K : PySem.W.Frag} {C : Str} {n : Nat} {f : O → List D → RI} (h : Sn K W (Dens K) emp t m) (hn : ArgN n m) : SnO K W (tMakeS (cadr K C) (spI K n f) (WE W) t) (mMake C f m) := by
  intro F H σ env fp Q R hq
  unfold mMake at hq
  refine h F H σ env fp _ ex_emp R ?_
  cases hm : m env with
  | fail =>
    rw [hm] at hq
    exact hq
  | exc z e =>
    rw [hm] at hq
    exact hq
  | ok ds e =>
    rw [hm] at hq
    intro F1 H1 fp1 vs P1 R1 d1
    have h1 := OutO.step P1 hq
    rw [Rs.bind_ok] at h1
    intro y dx hy hdx hne
    have lN := hn _ _ _ hm
    have nF : ∀ a, H1 a = none → F1 a = none := fun a ha => R1.ex.no ha
    have hy2 : upd H1 dx (.own y) y = none := by rw [upd_ne (Ne.symm hne)]; exact hy
    -- the old stands beside the new two
    have hk : ∀ a u, H1 a = some u → upd (upd H1 dx (.own y)) y (.ins (cadr K C) dx []) a = some u := fun a u h => by
      rw [upd_ne (ne_of_none h hy), upd_ne (ne_of_none h hdx)]
      exact h
    have fin : ∀ {F' H' : Hp} {fp' : List Addr}, Po F1 (upd (upd H1 dx (.own y)) y (.ins (cadr K C) dx [])) [y] F' H' fp' → Gr F1 H1 F' H' ∨ True := fun _ => .inr trivial
    refine ⟨by rw [List.length_cons, ← Dens.length d1, lN], F1, .ins C [] [], ds, [y], .ref y, vs, rfl, ⟨(R1.ex.upd (nF dx hdx)).upd (nF y hy), R1.at_.mk⟩, ⟨y, dx, [], [], rfl, rfl, upd_same, rfl, rfl, rfl⟩, by simp, fun a ha => ?_, d1, ?_⟩
    · rw [List.mem_singleton.mp ha]
      exact nF y hy
    · -- an object of before, seen behind the call
      have keep : ∀ {F' H' : Hp} {fp' : List Addr}, Po F1 (upd (upd H1 dx (.own y)) y (.ins (cadr K C) dx [])) [y] F' H' fp' → ∀ a u, H1 a = some u → Kp u (H' a) ∧ a ∉ fp' ∧ (isTp u = false → F1 a = none → F' a = none) := fun {F' H' fp'} P a u h => by
        have hay : a ≠ y := ne_of_none h hy
        have h0 := hk a u h
        refine ⟨P.keep a u h0 (by simpa using hay), fun z => ?_, fun nt q => P.out a u q ⟨h0, nt⟩ (by simpa using hay)⟩
        rcases P.fresh a z with z | z
        · exact hay (by simpa using z)
        · rw [h0] at z
          cases z
      have rel : ∀ {F' H' : Hp} {fp' : List Addr}, Po F1 (upd (upd H1 dx (.own y)) y (.ins (cadr K C) dx [])) [y] F' H' fp' → FH F' H' → Rel K F' H' σ e fp1 := fun {F' H' fp'} P ex => ⟨ex, R1.at_.mono P.f fun a ha => by
          obtain ⟨u, hu⟩ := R1.at_.dom a ha
          rw [hu.e, (keep P a u hu.e).1.of (tb_tp hu.n)], R1.nd, fun a ha => by
          obtain ⟨u, hu⟩ := R1.at_.dom a ha
          exact (keep P a u hu.e).2.2 hu.n (R1.out a ha)⟩
      have fresh : ∀ {F' H' : Hp} {fp' : List Addr}, Po F1 (upd (upd H1 dx (.own y)) y (.ins (cadr K C) dx [])) [y] F' H' fp' → ∀ a ∈ fp', H1 a = none := fun {F' H' fp'} P a ha => by
        cases q : H1 a with
        | none => rfl
        | some u => exact absurd ha (keep P a u q).2.1
      cases hf : f (.ins C [] []) ds with
      | fail =>
        rw [hf] at h1
        exact h1.elim
      | oo r o =>
        rw [hf] at h1
        exact h1.elim
      | exc z o =>
        rw [hf] at h1
        intro F' H' fp' c dd P ex _ _ _ hx
        exact h1 F' H' fp1 c dd ⟨P.f, fun a u h _ => (keep P a u h).1, fun a ha => .inl ha, fun a u q h _ => (keep P a u h.e).2.2 h.n q⟩ (rel P ex) hx
      | ok d o =>
        rw [hf] at h1
        intro F' H' fp' v P ex own' nd' out' dv
        cases d with
        | non =>
          refine ⟨dv, ?_⟩
          have Rr := rel P ex
          refine h1 F' H' fp' fp1 (.ref y) ⟨P.f, fun a u h _ => (keep P a u h).1, fun a ha => ?_, fun a u q h _ => (keep P a u h.e).2.2 h.n q⟩ ⟨ex, Rr.at_, own', List.nodup_append.mpr ⟨nd', Rr.nd, fun a ha b hb e => ?_⟩, fun a ha => ?_⟩
          · rcases List.mem_append.mp ha with z | z
            · exact .inr (fresh P a z)
            · exact .inl z
          · subst e
            obtain ⟨u, hu⟩ := R1.at_.dom a hb
            exact (keep P a u hu.e).2.1 ha
          · rcases List.mem_append.mp ha with z | z
            · exact out' a z
            · exact Rr.out a z
        | _ => exact h1.elim
theorem pdo_make {C y : Str} {k n : Nat} {f : O → List D → RI} (G : MakeD X.prog X.w X.K X.mg X.base k y C n f) (hr : Roam (k + 1) X.A) (hg : Gl X y) (tk : Takes X W) (hn : ArgN n m) (ha : PDA X W (e :: es) t m) (hdb : (y == ("__debug__" : Str)) = false := by decide)
    (he : starEach (e :: es) X.env = (false, eval e X.env) :: starEach es X.env := by rfl) (hpl : (backTo pos (starEach es X.env)).any (·.1) = false := by rfl) : PDO X W (.Call (.Name y p) (e :: es) [] pos) (tMakeS (cadr X.K C) (spI X.K n f) (WE W) t) (mMake C f m) := by
  obtain ⟨g, M, fd, ps, kp, b, F⟩ := G.ex
  exact ⟨pe_makeG M F hr hg G.at_ b (fun σ => passAt tk σ) ha.pa hdb he hpl, sno_make ha.sn hn⟩
def mProp (C : Str) (f : List D → RP) (a : MD) : MD := fun env => (a env).bind fun d e => match d with
  | .ins C' ns ds => if C' = C then (match f [.ins C' ns ds] with
    | .ok r => .ok r e
    | _ => .fail) else .fail
  | _ => .fail
end
end DD
namespace DD
open PySem PySem.Spec PyProof.Rows L2
def distinct : List Str → Nat
  | [] => 0
  | x :: xs => (if x ∈ xs then 0 else 1) + distinct xs
theorem distinct_le : ∀ xs : List Str, distinct xs ≤ xs.length
  | [] => Nat.le_refl _
  | x :: xs => by
    have := distinct_le xs
    unfold distinct
    rw [List.length_cons]
    split <;> omega
theorem distinct_snoc (x : Str) : ∀ xs : List Str, distinct (xs ++ [x]) = distinct xs + if x ∈ xs then 0 else 1
  | [] => by simp [distinct]
  | y :: ys => by
    have ih := distinct_snoc x ys
    show (if y ∈ ys ++ [x] then 0 else 1) + distinct (ys ++ [x]) = ((if y ∈ ys then 0 else 1) + distinct ys) + if x ∈ y :: ys then 0 else 1
    rw [ih]
    by_cases e : y = x
    · subst e
      simp
      split <;> omega
    · have e' : ¬ x = y := fun z => e z.symm
      have h1 : (y ∈ ys ++ [x]) ↔ y ∈ ys := by simp [e]
      have h2 : (x ∈ y :: ys) ↔ x ∈ ys := by simp [e']
      simp only [h1, h2]
      omega
theorem distinct_eq_length : ∀ xs : List Str, distinct xs = xs.length ↔ xs.Nodup
  | [] => by simp [distinct]
  | x :: xs => by
    have ih := distinct_eq_length xs
    have le := distinct_le xs
    unfold distinct
    rw [List.length_cons, List.nodup_cons, ← ih]
    by_cases h : x ∈ xs
    · simp only [h, if_true, not_true, false_and, iff_false]
      omega
    · simp only [h, if_false, not_false_eq_true, true_and]
      omega
section
variable {prog : Program} {w : World} {A : Around} {R : Result → Shared → Prop} {I : Addr} {fp wr : List Addr} {G : Array GenState → Array GenState → Prop} {n : Nat} {P : Nat → Value → Prop} {St : Nat → Shared → Prop}
abbrev memB (xs : List Str) : Str → Bool := fun k => decide (k ∈ xs)
theorem setOf_kept {h h' : Heap} {a : Addr} {S : Str → Bool} {m : Nat} (q : h.SetOf (PySem.strKind prog w) a S m) (k : ∀ o, h.get? a = some o → h'.get? a = some o) : h'.SetOf (PySem.strKind prog w) a S m := by
  obtain ⟨o, es, ep, t, e, r⟩ := q
  exact ⟨o, es, ep, t, k o e, r⟩
theorem loop_texts (W : WalksS prog w A.in1 I fp wr G n P St) (c : Addr) (out : c ∉ fp) (xs : List Str) (hl : xs.length = n) (hsmall : n + 1 < scanBound)
    (txt : ∀ i v, P i v → ∃ t, v = .str (xs.getD i Str.empty) t) :
    ∀ (todo i : Nat) (s : Shared), i + todo = n → St i s → s.heap.SetOf (PySem.strKind prog w) c (memB (xs.take i)) (distinct (xs.take i)) →
      (∀ s', Moved (c :: wr) G s s' → s'.heap.SetOf (PySem.strKind prog w) c (memB xs) (distinct xs) → R (.ok (.ret .none)) s') →
      codeAny (model prog w) A (.builtin "set.update.loop" ⟨[.ref c, .ref I], []⟩) R s := by
  have out' : c ∉ wr := fun z => out (W.sub _ z)
  have sub : ∀ b ∈ wr, b ∈ c :: wr := fun b z => List.mem_cons_of_mem _ z
  intro todo
  induction todo with
  | zero =>
    intro i s e st q fin
    have e' : i = n := e
    subst e'
    rw [← hl, List.take_length] at q
    refine codeAny_builtin PyProof.Rows.F.entry_set_update_loop ?_
    rw [Around.under_plainId PyProof.Rows.F.plain_set_update_loop _]
    show wpAny _ A.in1 (pyNext (.ref I) >>= _) _ _ s
    refine wpAny_bind (W.done s _ _ st fun s1 mv => ?_)
    show wpAny _ A.in1 (ret Value.none) _ _ s1
    refine wpAny_pure (fin s1 (mv.mono sub) (setOf_kept q fun o h => mv.heap c o out' h))
  | succ todo ih =>
    intro i s e st q fin
    have lt : i < n := by omega
    refine codeAny_builtin PyProof.Rows.F.entry_set_update_loop ?_
    rw [Around.under_plainId PyProof.Rows.F.plain_set_update_loop _]
    show wpAny _ A.in1 (pyNext (.ref I) >>= _) _ _ s
    refine wpAny_bind (W.item i s _ _ lt st fun v s1 pv st1 mv => ?_)
    obtain ⟨t, rfl⟩ := txt i v pv
    generalize hx : xs.getD i Str.empty = x
    have hi : xs[i]? = some x := by
      have h1 : i < xs.length := by omega
      rw [List.getElem?_eq_getElem h1, ← hx, List.getD_eq_getElem?_getD, List.getElem?_eq_getElem h1]
      rfl
    have tk : xs.take (i + 1) = xs.take i ++ [x] := by rw [List.take_add_one, hi]; rfl
    have q1 := setOf_kept (h' := s1.heap) q fun o h => mv.heap c o out' h
    show wpAny _ A.in1 (holding [Value.str x t] (setAdd c (.str x t)) >>= _) _ _ s1
    refine wpAny_bind (wpAny_holding ?_)
    unfold setAdd
    refine wpAny_holding (wpAny_bind ((PySem.strKind prog w).pyHash (k := x) (strKind_is _ _ _ _) ?_))
    have small : distinct (xs.take i) + 1 < scanBound := by
      have h1 := distinct_le (xs.take i)
      rw [List.length_take] at h1
      omega
    refine wpAny_setAddHashed_of (s := { s1 with toks := s1.toks + 1 }) (strKind_is _ _ _ _) rfl q1 small fun h2 sb q2 => ?_
    have q3 : h2.SetOf (PySem.strKind prog w) c (memB (xs.take (i + 1))) (distinct (xs.take (i + 1))) := by
      refine SetOf_congr q2 (fun k => ?_) ?_
      · rw [tk]
        simp only [memB, List.mem_append, List.mem_singleton, Bool.decide_or]
      · rw [tk, distinct_snoc]
        by_cases h : x ∈ xs.take i
        · simp [memB, h]
        · simp [memB, h]
    refine wpAny_pure ⟨plainId_quiet PyProof.Rows.F.plain_set_update_loop _, ih (i + 1) _ (by omega) (W.frame _ s1 _ _ st1 (Nat.le_succ _) fun b hb o h => ?_) q3 fun s3 mv3 q4 => ?_⟩
    · exact (sb.2 b fun z => out (z ▸ hb)).trans h
    · exact fin s3 (Moved.trans W.gtrans ((mv.mono sub).then_heap (Nat.le_succ _) fun b o hb h => (sb.2 b fun z => hb (by rw [z]; exact List.mem_cons_self)).trans h) mv3) q4
end
/-- the new set's object -/
abbrev setNew (led : Bool) : Obj := { cls := .type "set", dict := none, data := .set #[] 0 (.fresh 0 0 led) }
section
variable {prog : Program} {w : World} {A : Around} {E : Value → Shared → Prop} {s : Shared}
set_option maxHeartbeats 3200000 in
theorem set_of_texts {l : Addr} {items : Array Value} {xs : List Str} {Q : Value → Shared → Prop} (hh : A.handled = none) (hl : s.heap.IsTuple l items) (hi : PyProof.Rows.StrsAre items.toList xs) (hb : xs.length + 1 < scanBound)
    (fin : ∀ (h' : Heap) (tk : Nat), h'.SetOf (PySem.strKind prog w) s.heap.objs.size (memB xs) (distinct xs) → (∀ b o, b < s.heap.objs.size → s.heap.get? b = some o → h'.get? b = some o) → Q (.ref s.heap.objs.size) { s with heap := h', toks := tk }) :
    wpAny (model prog w) A (call (.type "set") [.ref l]) Q E s := by
  obtain ⟨_, _, hmro⟩ := PySem.F.called_set.mro
  have made := PySem.F.called_set.made
  have subs := PySem.F.called_set.sub
  have notType := PySem.F.called_set.notType
  have creates := PySem.F.called_set.canCreate
  have checks := PySem.F.typeCall_set_1 (.ref l)
  refine wpAny_call (codeAny_of_tree ?_)
  show wpAny _ _ (callAny (.type "set") _) _ _ _
  refine wpAny_pure ⟨Code.quiet_builtin _ (by decide +kernel), codeAny_builtin PySem.F.entry_type_call ?_⟩
  rw [Around.under_plain (weight_type_call_type "set" [.ref l] []) rfl]
  repeat (any_goals (first | assumption | wp_step))
  refine codeAny_mono (code_set_new_1 (.ref l) (E := E) (Q₁ := fun obj s1 => ∃ led : Bool, obj = .ref s.heap.objs.size ∧ s1 = { s with heap := s.heap.push (setNew led) }) fun led => ⟨led, rfl, rfl⟩) fun r s1 hr => ?_
  match r, hr with
  | .ok (.ret obj), hr =>
    obtain ⟨led, rfl, rfl⟩ := hr
    have at0 : (s.heap.push (setNew led)).get? s.heap.objs.size = some (setNew led) := Heap.get?_push_size _ rfl
    have ty0 : Shared.TypeIs { s with heap := s.heap.push (setNew led) } (.ref s.heap.objs.size) "set" := ⟨_, at0, rfl⟩
    have look := PySem.F.called_set.init.lookup
    have bind := PySem.F.called_set.init.bind (.ref s.heap.objs.size)
    repeat (any_goals (first | assumption | wp_step))
    refine codeAny_mono (codeAny_call_builtin (R := wants (fun r s2 => r = .none ∧ ∃ h' tk, s2 = { s with heap := h', toks := tk } ∧ h'.SetOf (PySem.strKind prog w) s.heap.objs.size (memB xs) (distinct xs) ∧
      (∀ b o, b < s.heap.objs.size → s.heap.get? b = some o → h'.get? b = some o)) E) PySem.F.called_set.init.plain PySem.F.entry_set_init (check_set_init_1 ty0 ?_)) fun r2 s2 hr2 => ?_
    · obtain ⟨⟨oc, od, odt, osl⟩, hol, hcl, nl, hdl⟩ := hl
      have hcl' : oc = .type "tuple" := hcl
      have hdl' : odt = .seq items nl := hdl
      subst hcl' hdl'
      have hol1 := Heap.get?_push_of_some (setNew led) hol
      have notSet := PySem.F.sub_tuple_set
      have notFrozen := PySem.F.sub_tuple_frozenset
      have notDict : (Value.type "tuple" == Value.type "dict") = false := by decide
      have tup1 : (s.heap.push (setNew led)).IsTuple l items := ⟨_, hol1, rfl, nl, rfl⟩
      unfold Builtin.«set.__init__» noKeywords Builtin.Frozenset.updateFrom
      generalize hit : pyIter = itf
      wp_walk
      subst hit
      refine wpAny_pyIter_tuple tup1 (wpAny_bind (wpAny_runValue ?_))
      have lt : l < s.heap.objs.size := Heap.lt_size hol
      have sz : (s.heap.push (setNew led)).objs.size = s.heap.objs.size + 1 := Heap.size_push _ _
      have hlen : xs.length = items.size := by rw [← StrsAre.len_eq hi, Array.length_toList]
      refine loop_texts (xs := xs) ((Walks.tuple (show A.in1.in1.in1.handled = none by simp [hh]) _ l (by rw [sz]; exact Nat.ne_of_lt (Nat.lt_succ_of_lt lt)) items).toS) s.heap.objs.size ?_ hlen (by rw [← hlen]; exact hb)
        (fun i v hv => SS.strs_at hi i v (by rw [Array.getElem?_toList]; exact hv)) items.size 0 _ (Nat.zero_add _) ⟨⟨_, Heap.get?_push_size _ rfl, rfl, rfl⟩, tup1.push _⟩ ?_ ?_
      · rw [sz]
        intro z
        rcases List.mem_cons.mp z with z | z
        · exact Nat.ne_of_lt (Nat.lt_succ_self _) z
        · exact Nat.ne_of_gt lt (List.mem_singleton.mp z)
      · exact SetOf_congr ((setObjOf_fresh (knd := PySem.strKind prog w) led).setOf (Heap.get?_push_of_some _ at0) (by unfold scanBound; omega)) (fun _ => rfl) rfl
      · rintro ⟨h', g', d', tk', os'⟩ mv q
        have e1 : g' = s.gens := mv.gens
        have e2 : d' = s.drawn := mv.drawn
        have e3 : os' = s.os := mv.os
        subst e1 e2 e3
        show wpAny _ _ _ _ _ _
        refine wpAny_pure ?_
        show wpAny _ _ (ret Value.none) _ _ _
        refine wpAny_pure ⟨rfl, h', tk', rfl, q, fun b o hb' h => mv.heap b o (fun z => ?_) (Heap.get?_push_of_some _ (Heap.get?_push_of_some _ h))⟩
        rw [sz] at z
        rcases List.mem_cons.mp z with z | z
        · exact Nat.ne_of_lt hb' z
        · exact Nat.ne_of_lt (Nat.lt_succ_of_lt hb') (List.mem_singleton.mp z)
    · match r2, hr2 with
      | .ok (.ret r), hr2 =>
        obtain ⟨rfl, h', tk, rfl, q, k⟩ := hr2
        repeat (any_goals (first | assumption | wp_step))
        exact fin _ _ q k
      | .error e, hr2 => exact hr2
      | .ok .next, hr2 => exact hr2.elim
      | .ok .brk, hr2 => exact hr2.elim
      | .ok .cont, hr2 => exact hr2.elim
  | .error e, hr => exact hr
  | .ok .next, hr => exact hr.elim
  | .ok .brk, hr => exact hr.elim
  | .ok .cont, hr => exact hr.elim
end
/-- len(set(e)) -/
def tLenSetD (K : PySem.W.Frag) (ta : TE) : TE := fun σ H Q => ta σ H fun x H1 => ∃ l, ∃ xs : List Str, x = .ref l ∧ SqT K H1 l (xs.map V.str) ∧ xs.length + 1 < scanBound ∧ Q (.int (distinct xs)) H1
section
variable {X : Cx} {W : WX} {a : Expr} {ta : TE} {ma : MD} {p p2 q pos : Pos}
theorem pe_lenSetD (hc : X.calm = true) (hg : Gl X "len") (hm : X.mg "len" = none) (hg2 : Gl X "set") (hm2 : X.mg "set" = none) (ha : PE X a ta)
    (na : starEach [a] X.env = (false, eval a X.env) :: starEach [] X.env := by rfl) : PE X (.Call (.Name "len" p) [.Call (.Name "set" p2) [a] [] q] [] pos) (tLenSetD X.K ta) := by
  constructor
  intro pins s σ H Q I h
  refine Call_ (ld_blt I hg hm boot_len (PyProof.Rows.callWith_builtin1 (PyProof.Rows.args_cons ?_ rfl) rfl rfl))
  refine Call_ (ld_blt I hg2 hm2 boot_set (PyProof.Rows.callWith_type1 (PyProof.Rows.args_cons (thn (ha.run pins s σ H _ I h) ?_) na) na rfl))
  rintro v s1 ⟨_, H1, I1, r1, l, xs, rfl, hq, hb, q1⟩
  cases r1
  refine PyProof.Rows.args_nil ?_
  obtain ⟨its, r, pl, hz⟩ := I1.tuple hq
  refine set_of_texts (I1.ok.hd hc) pl (xs := xs) (by simpa using strsAre_of r) hb fun h' tk so kp => PyProof.Rows.args_nil ?_
  obtain ⟨o, es, ep, t, ho, hex, hd, _, _, _, hf, hn⟩ := so
  have I2 : Inv X pins σ H1 { s1 with heap := h', toks := tk } := I1.kept fun b o e => kp b o (Heap.lt_size e) e
  have le := distinct_le xs
  refine call_len_set ho hex hd hf ?_ ⟨.int (distinct xs), H1, I2.tok _, ⟨_, by rw [hn]⟩, q1⟩
  rw [hn]
  unfold scanBound at hb
  omega
def lenSetD : D → Option D
  | .tup ds => (strsD ds).bind fun xs => if xs.length + 1 < scanBound then some (.int (distinct xs)) else none
  | _ => none
theorem pd_lenSet (hc : X.calm = true) (hg : Gl X "len") (hm : X.mg "len" = none) (hg2 : Gl X "set") (hm2 : X.mg "set" = none) (ha : PD X W a ta ma)
    (na : starEach [a] X.env = (false, eval a X.env) :: starEach [] X.env := by rfl) : PD X W (.Call (.Name "len" p) [.Call (.Name "set" p2) [a] [] q] [] pos) (tLenSetD X.K ta) (mUn lenSetD ma) := by
  refine ⟨pe_lenSetD hc hg hm hg2 hm2 ha.pe na, fun F H σ env fp Q _ R h => ?_⟩
  refine ha.sn.go ex_emp R h fun F1 H1 fp1 env1 x v P1 R1 d1 h1 => ?_
  obtain ⟨z, e1, k⟩ := out_ofO R1 h1
  cases x with
  | tup ds =>
    obtain ⟨xs, e2, e3⟩ := Option.bind_eq_some_iff.mp e1
    obtain ⟨l, o, vs, rfl, h2, _, h3⟩ := d1
    have ev := strsD_vs h3 e2
    subst ev
    by_cases hb : xs.length + 1 < scanBound
    · rw [if_pos hb] at e3
      cases e3
      exact ⟨l, xs, rfl, .inl (.inr ⟨o, R1.ex.at_ _ _ h2 rfl⟩), hb, k F1 H1 _ (Gr.refl R1.ex) rfl⟩
    · rw [if_neg hb] at e3
      cases e3
  | _ => cases e1
end
end DD
namespace DD
open PySem PySem.Spec PyProof.Rows L2
section
variable {X : Cx} {W : WX} {fx : List Nat} {pos p apos npos : Pos} {x : Str} {a b c e o : Expr} {es : List Expr} {ta tb tc te : TE} {ma mb mc me : MD} {t : TA} {m : MA} {i : Nat}
theorem sn_chain {K : PySem.W.Frag} {r r' : R2} {f g : D → D → Option D} (ha : Sn K W (Den K) emp ta ma) (hb : Sn K W (Den K) emp tb mb) (hc : Sn K W (Den K) emp tc mc) (hf : OpD K r f) (hg : OpD K r' g) : Sn K W (Den K) emp (tChain r r' ta tb tc) (mChain f g ma mb mc) := by
  intro F H σ env fp Q _ R h
  refine ha.go ex_emp R h fun F1 H1 fp1 env1 x v P1 R1 d1 h1 => ?_
  refine hb.go ex_emp R1 h1 fun F2 H2 fp2 env2 y u P2 R2 d2 h2 => ?_
  cases hz : f x y with
  | none => rw [hz] at h2; exact h2.elim
  | some z =>
    rw [hz] at h2
    refine hf F2 H2 x y v u z R2.ex (Den.mono P2.f x v d1) d2 hz _ fun F3 H3 w g3 dz => ?_
    have R3 := R2.grow g3
    have h3 := Out.step (g3.po (fp := fp2)) h2
    cases z with
    | bl k =>
      have dz' : w = .bl k := dz
      subst dz'
      refine ⟨k, rfl, ?_⟩
      cases k with
      | false => exact h3 F3 H3 fp2 (.bl false) Po.refl R3 rfl
      | true =>
        refine hc.go ex_emp R3 h3 fun F4 H4 fp4 env4 z u' P4 R4 d4 h4 => ?_
        obtain ⟨q, eq, k⟩ := out_ofO R4 h4
        exact hg F4 H4 y z u u' q R4.ex (Den.mono (g3.f.trans P4.f) y u d2) d4 eq Q k
    | _ => exact h3.elim
theorem pd_chain {op op' : CmpOp} {r r' : R2} {f g : D → D → Option D} (ho : OpR X (compareOp op) r) (hf : OpD X.K r f) (ho' : OpR X (compareOp op') r') (hg : OpD X.K r' g) (ha : PD X W a ta ma) (hb : PD X W b tb mb) (hc : PD X W c tc mc)
    (hm : lastMarks [op, op'] [b, c] = false := by with_unfolding_all rfl) : PD X W (.Compare a [op, op'] [b, c] pos) (tChain r r' ta tb tc) (mChain f g ma mb mc) := ⟨pe_chain ho ho' ha.pe hb.pe hc.pe hm, sn_chain ha.sn hb.sn hc.sn hf hg⟩
theorem sn_star {K : PySem.W.Frag} (ha : Sn K W (Den K) emp ta ma) (hr : Sn K W (Dens K) emp t m) : Sn K W (Dens K) emp (StX.tStar K ta t) (mStar ma m) := by
  intro F H σ env fp Q _ R h
  refine ha.go ex_emp R h fun F1 H1 fp1 env1 x v P1 R1 d1 h1 => ?_
  have main : ∀ (p : Addr) (vs : List V) (ys : List D), (SqT K H1 p vs ∨ SqL K H1 p vs) → Dens K F1 ys vs → v = .ref p → Out K W (Dens K) F1 H1 σ fp1 Q ((m env1).bind fun xs e2 => .ok (ys ++ xs) e2) → ∃ a xs, v = .ref a ∧ (SqT K H1 a xs ∨ SqL K H1 a xs) ∧ t σ H1 fun vs H2 => Q (xs ++ vs) H2 :=
    fun p vs ys hs hd ev hq => ⟨p, vs, ev, hs, hr.go ex_emp R1 hq fun F2 H2 fp2 env2 y u P2 R2 d2 h2 => h2 F2 H2 fp2 _ Po.refl R2 (Dens.append (Dens.mono P2.f _ _ hd) d2)⟩
  cases x with
  | tup ys =>
    obtain ⟨p, o, vs, ev, h2, _, h3⟩ := d1
    exact main p vs ys (.inl (.inl (.inr ⟨o, R1.ex.at_ _ _ h2 rfl⟩))) h3 ev h1
  | lst ys =>
    obtain ⟨p, vs, ev, h2, h3⟩ := d1
    exact main p vs ys (.inr (.inl (R1.ex.rd h2))) h3 ev h1
  | _ => exact h1.elim
theorem pda_star (he : PD X W e te me) (hr : PDA X W es t m) (hs : starEach (.Starred e p :: es) X.env = (true, eval e X.env) :: starEach es X.env := by rfl) : PDA X W (.Starred e p :: es) (StX.tStar X.K te t) (mStar me m) := ⟨StX.pa_star he.pe hr.pa hs, sn_star he.sn hr.sn⟩
def tyN : D → Option String
  | .non => some "NoneType"
  | .bl _ => some "bool"
  | .int _ => some "int"
  | .str _ => some "str"
  | .tup _ => some "tuple"
  | .lst _ => some "list"
  | .wtp _ => some "tuple"
  | .dct _ _ => some "dict"
  | .dtt _ _ => none
  | .ins _ _ _ => none
  | .scr _ => none
def isT (n T : String) : Bool := (n == T) || ((n == "bool") && (T == "int"))
def isiD (T : String) (d : D) : Option D := (tyN d).map fun n => .bl (isT n T)
theorem tyX_of {K : PySem.W.Frag} {F H : Hp} {d : D} {v : V} {n : String} (e : FH F H) (h : Den K F d v) (hn : tyN d = some n) : TyX K H v (.type n) := by
  cases d with
  | non =>
    cases hn
    have h' : v = .non := h
    subst h'
    exact .base .non
  | bl b =>
    cases hn
    have h' : v = .bl b := h
    subst h'
    exact .base (.bl b)
  | int i =>
    cases hn
    have h' : v = .int i := h
    subst h'
    exact .base (.int i)
  | str s =>
    cases hn
    have h' : v = .str s := h
    subst h'
    exact .base (.str s)
  | tup ds =>
    cases hn
    obtain ⟨p, o, vs, rfl, h2, _, _⟩ := h
    exact .fTuple (e.at_ _ _ h2 rfl)
  | lst ds =>
    cases hn
    obtain ⟨p, vs, rfl, h2, _⟩ := h
    rcases h2 with h2 | ⟨o, h2⟩
    · exact .base (.lst (e.at_ _ _ h2 rfl))
    · exact .base (.frz (e.at_ _ _ h2 rfl))
  | wtp ds =>
    cases hn
    obtain ⟨p, vs, rfl, h2, _⟩ := h
    exact .base (.tup (e.at_ _ _ h2 rfl))
  | dct ks ds =>
    cases hn
    obtain ⟨p, o, vs, rfl, h2, _⟩ := h
    exact .fDict (e.at_ _ _ h2 rfl)
  | _ => cases hn
theorem sn_isi {K : PySem.W.Frag} {T : String} (hk : ["NoneType", "bool", "int", "str", "tuple", "list", "dict"].all (fun n => kitB n T == some (isT n T)) = true) (he : Sn K W (Den K) emp te me) :
    Sn K W (Den K) emp (tCB (rIsi K) (tCons te (tCons (tC (.ty T)) tNil))) (mUn (isiD T) me) := by
  intro F H σ env fp Q _ R h
  refine he.go ex_emp R h fun F1 H1 fp1 env1 d v P1 R1 d1 h1 => ?_
  obtain ⟨z, e1, k⟩ := out_ofO R1 h1
  obtain ⟨n, e2, rfl⟩ := Option.map_eq_some_iff.mp e1
  have hn : n ∈ ["NoneType", "bool", "int", "str", "tuple", "list", "dict"] := by
    cases d <;> cases e2 <;> simp
  have hb : kitB n T = some (isT n T) := by simpa using List.all_eq_true.mp hk n hn
  exact ⟨v, .ty T, .type n, .type T, isT n T, rfl, .ty T, tyX_of R1.ex d1 e2, kit_ty hb, k F1 H1 _ (Gr.refl R1.ex) rfl⟩
theorem pd_isi {T : String} {y : Str} {p2 p3 : Pos} (hk : ["NoneType", "bool", "int", "str", "tuple", "list", "dict"].all (fun n => kitB n T == some (isT n T)) = true) (hg : Gl X "isinstance") (hm : X.mg "isinstance" = none) (hg2 : Gl X y) (hm2 : X.mg y = none) (hv2 : bootBuiltins y = some (.type T))
    (he : PD X W e te me) (hn : y ≠ "__name__" := by decide) (hd : (y == ("__debug__" : Str)) = false := by decide)
    (hs2 : starEach [.Name y p3] X.env = (false, eval (.Name y p3) X.env) :: starEach [] X.env := by rfl)
    (hs : starEach [e, .Name y p3] X.env = (false, eval e X.env) :: starEach [.Name y p3] X.env := by rfl) (hpl : (backTo pos (starEach [.Name y p3] X.env)).any (·.1) = false := by rfl) :
    PD X W (.Call (.Name "isinstance" p2) [e, .Name y p3] [] pos) (tCB (rIsi X.K) (tCons te (tCons (tC (.ty T)) tNil))) (mUn (isiD T) me) :=
  ⟨pe_callB call_isi hg hm (by decide +kernel) (pa_cons he.pe (pa_cons (pe_bltn hg2 hm2 hv2 (rfl : RelV (.ty T) (.type T)) hn hd) pa_nil hs2) hs) (by decide) (by decide) hs hpl, sn_isi hk he.sn⟩
def tyE (K : PySem.W.Frag) (T : String) (x : V) (H : Hp) : Prop := tyV K T x H ∨ (T = "tuple" ∧ ∃ p o vs, x = .ref p ∧ H p = some (.frz o (.tup vs)) ∧ o.dict = none)
theorem tyE_is {pins : List (Addr × Obj)} {σ : L2.St} {H : Hp} {s : Shared} {T : String} {x : V} {v : Value} (I : Inv X pins σ H s) (r : RelV x v) (ty : tyE X.K T x H) : s.TypeIs v T ∧ ∀ a, v = .ref a → ∃ ob, s.heap.get? a = some ob ∧ ob.dict = none := by
  rcases ty with ty | ⟨rfl, p, o, vs, rfl, h1, h2⟩
  · exact tyV_is I r ty
  · cases r
    obtain ⟨g, _, its, _, ht⟩ := (show ObjOk X.prog X.w H s.heap p (.frz o (.tup vs)) from I.hok p _ h1)
    obtain ⟨ob, g1, c, _⟩ := ht
    refine ⟨⟨ob, g1, c⟩, fun a e => ?_⟩
    cases e
    exact ⟨o, g, h2⟩
def tBME (K : PySem.W.Frag) (T : String) (r : V → List V → Hp → VK → Prop) (to : TE) (t : TA) : TE := fun σ H Q => to σ H fun x H1 => tyE K T x H1 ∧ t σ H1 fun xs H2 => r x xs H2 Q
theorem pe_bmE {T id : String} {name : Str} {cpos : Pos} {r : V → List V → Hp → VK → Prop} {to : TE} (pa : PlainAttrs T) (slot : Slot T name id) (hty : typeOf (.builtin id) = pure (.type "method_descriptor")) (hm : MtR X id r) (ho : PE X o to) (ha : PA X (e :: es) t)
    (hbase : attributeBase o name X.env (eval o X.env) = eval o X.env := by rfl)
    (hfew : ((backTo cpos (starEach (e :: es) X.env)).all (fun x => !x.1) && (backToKw cpos (keywordEach [] X.env)).all (fun x => x.1.isSome)
      && decide ((e :: es).length + ([] : List Keyword).length + (if ([] : List Keyword).isEmpty then 0 else 1) < 30)) = true := by rfl)
    (hline : (apos.endLine == cpos.line) = true := by rfl) (hs : starEach (e :: es) X.env = (false, eval e X.env) :: starEach es X.env := by rfl) (hplain : (backTo cpos (starEach es X.env)).any (·.1) = false := by rfl) :
    PE X (.Call (.Attribute o name apos) (e :: es) [] cpos) (tBME X.K T r to t) := by
  constructor
  intro pins s σ H Q I h
  refine wpAny_Call_method_late hbase hfew hline rfl (thn (ho.run pins s σ H _ I h) ?_)
  rintro v s1 ⟨x, H1, I1, r1, ty, q1⟩
  obtain ⟨h1, h2⟩ := tyE_is I1 r1 ty
  have run := ha.run cpos pins s1 σ H1 _ I1 q1
  rw [hs] at run ⊢
  refine ⟨T, id, pa, slot, hty, h1, h2, Calls.callWith_builtin ?_ (Calls.evalArgs_plain (thn run fun us s2 ⟨vs, H2, I2, r2, q2⟩ => hm pins s2 σ H2 x vs v us Q I2 r1 r2 q2))⟩
  show (false || (backTo cpos (starEach es X.env)).any (·.1)) = false
  rw [hplain]
  rfl
/-- the first place -/
def placeS (z : Str) : List Str → Option Nat
  | [] => none
  | y :: ys => if y = z then some 0 else (placeS z ys).map (· + 1)
theorem placeS_at {z : Str} : ∀ {ys : List Str} {j : Nat}, placeS z ys = some j → ys[j]? = some z ∧ ∀ k, k < j → ys[k]? ≠ some z
  | [], j, h => by cases h
  | y :: ys, j, h => by
    unfold placeS at h
    by_cases e : y = z
    · rw [if_pos e] at h
      cases h
      exact ⟨by rw [e]; rfl, fun k hk => absurd hk (Nat.not_lt_zero _)⟩
    · rw [if_neg e] at h
      obtain ⟨j', h1, rfl⟩ := Option.map_eq_some_iff.mp h
      obtain ⟨h2, h3⟩ := placeS_at h1
      refine ⟨by simpa using h2, fun k hk => ?_⟩
      cases k with
      | zero => simpa using e
      | succ k => simpa using h3 k (by omega)
def indexD (d z : D) : Option D := match d, z with
  | .tup ds, .str s => (strsD ds).bind fun ys => (placeS s ys).map fun j => .int (j : Nat)
  | _, _ => none
def mIndex (a b : MD) : MD := fun env => (a env).bind fun x e1 => match x with
  | .tup ds => (b e1).bind fun y e2 => ofO (indexD (.tup ds) y) e2
  | _ => .fail
def rTupIx (K : PySem.W.Frag) : V → List V → Hp → VK → Prop := fun x xs H Q => ∃ p, ∃ ys : List Str, ∃ z j, x = .ref p ∧ xs = [.str z] ∧ SqT K H p (ys.map V.str) ∧ ys[j]? = some z ∧ (∀ m, m < j → ys[m]? ≠ some z) ∧ Q (.int (j : Nat)) H
theorem sn_index {K : PySem.W.Frag} (ha : Sn K W (Den K) emp ta ma) (hb : Sn K W (Den K) emp tb mb) : Sn K W (Den K) emp (tBME K "tuple" (rTupIx K) ta (tCons tb tNil)) (mIndex ma mb) := by
  intro F H σ env fp Q _ R h
  refine ha.go ex_emp R h fun F1 H1 fp1 env1 x v P1 R1 d1 h1 => ?_
  cases x with
  | tup ds =>
    obtain ⟨p, o, vs, rfl, q1, q2, q3⟩ := d1
    refine ⟨.inr ⟨rfl, p, o, vs, rfl, R1.ex.at_ _ _ q1 rfl, q2⟩, ?_⟩
    refine hb.go ex_emp R1 h1 fun F2 H2 fp2 env2 y u P2 R2 d2 h2 => ?_
    obtain ⟨z, e1, k⟩ := out_ofO R2 h2
    cases y with
    | str s =>
      obtain ⟨ys, e2, e3⟩ := Option.bind_eq_some_iff.mp e1
      obtain ⟨j, e4, rfl⟩ := Option.map_eq_some_iff.mp e3
      have ev := strsD_vs q3 e2
      subst ev
      obtain ⟨g1, g2⟩ := placeS_at e4
      have d2' : u = .str s := d2
      subst d2'
      exact ⟨p, ys, s, j, rfl, rfl, .inl (.inr ⟨o, R2.ex.at_ _ _ (P2.f _ _ q1) rfl⟩), g1, g2, k F2 H2 _ (Gr.refl R2.ex) rfl⟩
    | _ => cases e1
  | _ => exact h1.elim
theorem pd_index {cpos : Pos} (ha : PD X W o ta ma) (hb : PD X W e te me) (hbase : attributeBase o "index" X.env (eval o X.env) = eval o X.env := by rfl)
    (hfew : ((backTo cpos (starEach [e] X.env)).all (fun x => !x.1) && (backToKw cpos (keywordEach [] X.env)).all (fun x => x.1.isSome)
      && decide ([e].length + ([] : List Keyword).length + (if ([] : List Keyword).isEmpty then 0 else 1) < 30)) = true := by rfl)
    (hline : (apos.endLine == cpos.line) = true := by rfl) (hs : starEach [e] X.env = (false, eval e X.env) :: starEach [] X.env := by rfl) (hplain : (backTo cpos (starEach [] X.env)).any (·.1) = false := by rfl) :
    PD X W (.Call (.Attribute o "index" apos) [e] [] cpos) (tBME X.K "tuple" (rTupIx X.K) ta (tCons te tNil)) (mIndex ma me) :=
  ⟨pe_bmE F.plainAttrs_tuple F.slot_tuple_index F.type_tuple_index mt_tup_index ha.pe (pa_cons hb.pe pa_nil hs) hbase hfew hline hs hplain, sn_index ha.sn hb.sn⟩
def mCallE (f : O → List D → RI) (a : MO) (m : MA) : MD := fun env => (a env).bind fun o e1 => (m e1).bind fun ds e2 => match f o ds with
  | .ok d _ => .ok d e2
  | .exc x _ => .exc x e2
  | _ => .fail
theorem sn_callE {K : PySem.W.Frag} {n : Nat} {f : O → List D → RI} {mo : MO} (ha : SnO K W ta mo) (h : Sn K W (Dens K) emp t m) (hn : ArgN n m) : Sn K W (Den K) emp (tCallS (spI K n f) (WE W) (tCons ta t)) (mCallE f mo m) := by
  intro F H σ env fp Q _ R hq
  unfold mCallE at hq
  refine ha F H σ env fp _ R ?_
  cases hm : mo env with
  | fail => rw [hm] at hq; exact hq
  | exc x e => rw [hm] at hq; exact hq
  | ok o e1 =>
    rw [hm] at hq
    intro F1 H1 f1 f2 v P1 R1
    have h1 := Out.step P1 hq
    rw [Rs.bind_ok] at h1
    refine h F1 H1 σ e1 f2 _ ex_emp R1.rel ?_
    cases hm2 : m e1 with
    | fail => rw [hm2] at h1; exact h1
    | exc x e =>
      rw [hm2] at h1
      exact fun F' H' fp' c dd P R' z => h1 F' H' fp' c dd ⟨P.f, fun a u h n => P.keep a u h fun z => n (List.mem_append_right _ z), fun a ha => (P.fresh a ha).imp (List.mem_append_right _) id, fun a u g1 g2 n => P.out a u g1 g2 fun z => n (List.mem_append_right _ z)⟩ R' z
    | ok ds e2 =>
      rw [hm2] at h1
      intro F2 H2 f3 vs P2 R2 d2
      obtain ⟨R3, P3⟩ := R1.frame P2 R2
      have h3 := Out.step P3 h1
      rw [Rs.bind_ok] at h3
      have nd := List.nodup_append.mp R3.nd
      have dom := OwnAt.dom o v f1 R3.own
      refine ⟨by rw [List.length_cons, ← Dens.length d2, hn _ _ _ hm2], F2, o, ds, f1, v, vs, rfl, ⟨R3.ex, R3.at_.mk⟩, R3.own, nd.1, fun a ha => R3.out a (List.mem_append_left _ ha), d2, ?_⟩
      -- what is left behind the call
      have rel : ∀ {F' H' : Hp} {fp' : List Addr}, Po F2 H2 f1 F' H' fp' → FH F' H' → Rel K F' H' σ e2 f3 ∧ Po F2 H2 (f1 ++ f3) F' H' f3 := fun {F' H' fp'} P ex => by
        have nf : ∀ a ∈ f3, a ∉ f1 := fun a ha hb => nd.2.2 a hb a ha rfl
        have dom3 : ∀ a ∈ f3, ∃ u, Hs H2 a u := fun a ha => R2.at_.dom a ha
        refine ⟨⟨ex, R2.at_.mono P.f fun a ha => ?_, R2.nd, fun a ha => ?_⟩, ⟨P.f, fun a u h n => P.keep a u h fun z => n (List.mem_append_left _ z), fun a ha => .inl (List.mem_append_right _ ha), fun a u g1 g2 n => P.out a u g1 g2 fun z => n (List.mem_append_left _ z)⟩⟩
        · obtain ⟨u, hu⟩ := dom3 a ha
          rw [hu.e, (P.keep a u hu.e (nf a ha)).of (tb_tp hu.n)]
        · obtain ⟨u, hu⟩ := dom3 a ha
          exact P.out a u (R2.out a ha) hu (nf a ha)
      cases hf : f o ds with
      | ok d o' =>
        rw [hf] at h3
        intro F' H' fp' w P ex _ _ _ dw
        obtain ⟨R4, P4⟩ := rel P ex
        exact h3 F' H' f3 w P4 R4 dw
      | oo r o' => rw [hf] at h3; exact h3.elim
      | exc x o' =>
        rw [hf] at h3
        intro F' H' fp' c dd P ex _ _ _ z
        obtain ⟨R4, P4⟩ := rel P ex
        exact h3 F' H' f3 c dd P4 R4 z
      | fail => rw [hf] at h3; exact h3.elim
theorem pd_callE {k n : Nat} {mo : MO} {f : O → List D → RI} (G : DefI X.prog X.w X.K X.mg X.base k x n f) (hr : Roam k X.A) (hg : Gl X x) (tk : Takes X W) (ho : PDO X W o ta mo) (hn : ArgN n m) (ha : PDA X W es t m) (hdb : (x == ("__debug__" : Str)) = false := by decide)
    (he : starEach (o :: es) X.env = (false, eval o X.env) :: starEach es X.env := by rfl) (hpl : (backTo pos (starEach es X.env)).any (·.1) = false := by rfl) : PD X W (.Call (.Name x p) (o :: es) [] pos) (tCallS (spI X.K n f) (WE W) (tCons ta t)) (mCallE f mo m) := by
  obtain ⟨g, hm, fd, ps, kp, b, F⟩ := G.ex
  exact ⟨pe_callG F hr hg hm kp b (fun σ => passAt tk σ) (pa_cons ho.pe ha.pa he) hdb he hpl, sn_callE ho.sn ha.sn hn⟩
end
end DD
namespace DD
open PySem L2
end DD
namespace DD
open PySem L2
section
variable {X : Cx} {W : WX} {fx : List Nat} {gs gs1 vs1 : List Nat} {wi wi1 : TI} {mi mi1 : MA} {g g1 : TG} {mg mg1 : D → DEnv → Option DEnv} {tt tt1 : TT} {mt mt1 : MB} {te : TE} {me : MD} {elt tg iter tg1 iter1 : Expr} {ifs ifs1 : List Expr} {scope : Scope} {own : List (Str × Nat)} {pos py spos : Pos} {i : Nat} {y : Str}
theorem sns_set {K : PySem.W.Frag} (he : Sn K W (Den K) emp te me) (hf : i ∉ fx) : SnS K W fx (tAsg te (gName i)) (mSet i me) := by
  intro F H σ env fp D' R h
  refine he.goS ex_emp R h fun F1 H1 fp1 env1 d v P1 R1 d1 h1 => ?_
  obtain ⟨fp2, R2, sub⟩ := R1.set (i := i) d1
  exact h1 F1 H1 _ fp2 (Po.sub sub) (Fx.set hf) R2
theorem pds_setLc {wk : Bool} (hc : X.calm = true) (hN : X.N.Nodup) (hy : X.N[i]? = some y) (hyl : X.env.scope.names.lookup y = some .local) (hi : PDI wk X W tg iter wi mi) (ok : BlkOk X.N X.env.scope scope own)
    (hg : ∀ (s : Shared) (H : Hp) (C : Addr) (cl : List (Str × Addr)) (fp : List Addr), PDG wk (X.blk s H scope (compEnvC scope cl C X.env) fp) gs tg g mg)
    (ht : ∀ (s : Shared) (H : Hp) (C : Addr) (cl : List (Str × Addr)) (fp : List Addr), PDTs (X.blk s H scope (compEnvC scope cl C X.env) fp) W0 ifs tt mt)
    (he : ∀ (s : Shared) (H : Hp) (C : Addr) (cl : List (Str × Addr)) (fp : List Addr), PD (X.blk s H scope (compEnvC scope cl C X.env) fp) W0 elt te me)
    (hf : i ∉ fx := by decide) (hgs : gs.all (fun i => (own.map (·.2)).contains i) = true := by decide) (hs : ∀ x, foldedSetIterable iter X.env x = pure x := by intro _; rfl)
    (hsw : swapsWith (.ListComp elt [⟨tg, iter, ifs, 0⟩] scope pos) (some (.Name y py)) spos.line X.env = pure true := by rfl) :
    PDS X W fx (.Assign [.Name y py] (.ListComp elt [⟨tg, iter, ifs, 0⟩] scope pos) spos) (tAsg (tLc wi g tt te (own.map (·.2))) (gName i)) (mSet i (mLc mi mg mt me (own.map (·.2)))) :=
  ⟨ps_setLc hc hN hy hyl hsw hi.pi ok (fun s H C cl fp => (hg s H C cl fp).pg) (fun s H C cl fp => (ht s H C cl fp).pt) (fun s H C cl fp => (he s H C cl fp).pe) hs,
    sns_set (pd_lc (pos := pos) hc hN hi ok hg ht he hgs hs).sn hf⟩
end
end DD
namespace DD
open PySem PySem.Spec PyProof.Rows L2
theorem DefX.funD {K : PySem.W.Frag} {d : DefX} (e : FnT K (d.loc K) = d.val) (c : d.ok K = true) : ∃ fd, FunD K d.name d.qual (defArgs d.st) (defBody d.st) (defScope d.st) [] [] (d.loc K) fd := by
  obtain ⟨kp, c2⟩ := He.ba c
  unfold FnT at e
  cases q : K.lookup (d.loc K) with
  | none =>
    rw [q] at c2
    cases c2
  | some o =>
    rw [q] at c2 e
    obtain ⟨oc, od, dt, osl⟩ := o
    cases dt
    case func fd =>
      obtain ⟨n1, n2, n3, n4, n5, n6, n7, n8, n9, n10, n11, n12, n13, n14, n15⟩ := fd
      have e' : (some (n1, n2, n3, n4, n5, n6, n7, n15) : He.FnW) = d.val := e
      unfold DefX.val at e'
      simp only [Option.some.injEq, Prod.mk.injEq] at e'
      obtain ⟨rfl, rfl, rfl, rfl, rfl, rfl, rfl, rfl⟩ := e'
      obtain ⟨k1, k2⟩ := He.ba (show (PySem.W.codeIn K n13 d.qual && (He.dflB K n8 [] && He.kwdB K n9 [])) = true from c2)
      obtain ⟨k3, k4⟩ := He.ba k2
      exact ⟨_, ⟨oc, od, n8, n9, n10, n11, n12, n13, n14, osl, rfl, q, k1, He.dflB_ok k3, He.kwdB_ok k4⟩, kp⟩
    all_goals cases c2
section
variable {bs : List BoolX} {fn : List DefX} {K : PySem.W.Frag}
theorem SaysX.fact (c : SaysX bs fn K) (i : Nat) {b : BoolX} (h : bs[i]? = some b := by rfl) : b K = true := by
  have q : ((bs.all fun b => b K) && fn.all fun d => d.ok K) = true := congrArg Prod.fst c
  exact List.all_eq_true.mp (He.ba q).1 b (List.mem_of_getElem? h)
theorem SaysX.def_ (c : SaysX bs fn K) (i : Nat) {d : DefX} (h : fn[i]? = some d := by rfl) : ∃ fd, FunD K d.name d.qual (defArgs d.st) (defBody d.st) (defScope d.st) [] [] (d.loc K) fd := by
  have q : ((bs.all fun b => b K) && fn.all fun d => d.ok K) = true := congrArg Prod.fst c
  have e : fn.map (fun d => FnT K (d.loc K)) = fn.map DefX.val := congrArg Prod.snd c
  have e' : (fn.map fun d => FnT K (d.loc K))[i]? = (fn.map DefX.val)[i]? := by rw [e]
  simp only [List.getElem?_map, h, Option.map_some, Option.some.injEq] at e'
  exact DefX.funD e' (List.all_eq_true.mp (He.ba q).2 d (List.mem_of_getElem? h))
end
end DD
namespace DD
open PySem PySem.Spec PyProof.Rows L2
theorem bt_len : bootBuiltins "len" = some (.builtin "len") := by decide +kernel
theorem bt_abs : bootBuiltins "abs" = some (.builtin "abs") := by decide +kernel
theorem bt_max : bootBuiltins "max" = some (.builtin "max") := by decide +kernel
theorem bt_min : bootBuiltins "min" = some (.builtin "min") := by decide +kernel
theorem bt_all : bootBuiltins "all" = some (.builtin "all") := by decide +kernel
theorem bt_any : bootBuiltins "any" = some (.builtin "any") := by decide +kernel
theorem bt_sorted : bootBuiltins "sorted" = some (.builtin "sorted") := by decide +kernel
theorem bt_repr : bootBuiltins "repr" = some (.builtin "repr") := by decide +kernel
theorem bt_int : bootBuiltins "int" = some (.type "int") := by decide +kernel
theorem bt_str : bootBuiltins "str" = some (.type "str") := by decide +kernel
theorem bt_tuple : bootBuiltins "tuple" = some (.type "tuple") := by decide +kernel
theorem bt_list : bootBuiltins "list" = some (.type "list") := by decide +kernel
theorem kb_str : ["NoneType", "bool", "int", "str", "tuple", "list", "dict"].all (fun n => kitB n "str" == some (isT n "str")) = true := by decide +kernel
theorem kb_tuple : ["NoneType", "bool", "int", "str", "tuple", "list", "dict"].all (fun n => kitB n "tuple" == some (isT n "tuple")) = true := by decide +kernel
section
variable {X : Cx} {W : WX} {k : Nat}
theorem u65 (r : Roam k X.A) : X.A.units + 65 < cLine := by
  have := r.room.un
  omega
theorem u64 (r : Roam k X.A) : X.A.units + 64 < cLine := by
  have := r.room.un
  omega
theorem tk0 : Takes X W0 := takes0
theorem pnm (i : Nat) {x : Str} {pos : Pos} (hN : X.N[i]? = some x := by rfl) (hv : Vis X.env.scope x := by first | exact Or.inl rfl | exact Or.inr (Or.inl rfl) | exact Or.inr (Or.inr rfl)) (hd : (x == ("__debug__" : Str)) = false := by decide)
    (hcd : (x == ("__classdict__" : Str)) = false := by decide) : PE X (.Name x pos) (tVar i) := pe_var hN hv hd hcd
theorem pds_parL {fx : List Nat} {i j : Nat} {x y : Str} {a b : Expr} {ta tb : TE} {ma mb : MO} {px py pt pos : Pos} {kt k2 pt2} (hij : i ≠ j) (hc : X.calm = true) (hN : X.N.Nodup) (hi : X.N[i]? = some x) (hj : X.N[j]? = some y) (hx : X.env.scope.names.lookup x = some .local) (hy : X.env.scope.names.lookup y = some .local) (ha : PDO X W a ta ma) (hb : PDO X W b tb mb) (hf : i ∉ fx := by decide) (hg : j ∉ fx := by decide)
    (ha2 : starEach [a, b] X.env = (false, eval a X.env) :: starEach [b] X.env := by rfl) (hb2 : starEach [b] X.env = (false, eval b X.env) :: starEach [] X.env := by rfl)
    (hw : swappedStores [.Tuple [.Name x px, .Name y py] kt pt] (.Tuple [a, b] k2 pt2) X.env = pure (some [x, y]) := by rfl) (hs : swapsWithSole [.Tuple [.Name x px, .Name y py] kt pt] (.Tuple [a, b] k2 pt2) pos.line X.env = pure false := by rfl) :
    PDS X W fx (.Assign [.Tuple [.Name x px, .Name y py] kt pt] (.Tuple [a, b] k2 pt2) pos) (tPar i j (tCons ta (tCons tb tNil))) (mPar2 i j ma mb) :=
  pds_par2 hij (ps_par hc hN hi hj hij hx hy (pa_cons ha.pe (pa_cons hb.pe pa_nil hb2) ha2) hw hs) ha hb hf hg
end
end DD
namespace DD
open PySem PySem.Spec PyProof.Rows L2
structure InsA (K : PySem.W.Frag) (C' C : Str) (b : Bool) : Prop where
  kit : PySem.W.kitOne K (.ref (cadr K C')) (.ref (cadr K C)) = some b
  cl : Cls K (cadr K C')
  ha : PySem.W.findIn K (.ref (cadr K C')) "__class__" = some (some (.builtin "object.__class__"))
  hn : PySem.W.specialIn K (.builtin "object.__class__") "__get__" = some (some (.builtin "getset_descriptor.__get__"))
  htk : PySem.W.takesIn K (.builtin "object.__class__") = some true
  hm : PySem.W.mroIn K (cadr K C') (.type "object") = some true
/-- all that L says -/
inductive InsL (K : PySem.W.Frag) (C : Str) : List (Str × Bool) → Prop where
  | nil : InsL K C []
  | cons {C' : Str} {b : Bool} {L : List (Str × Bool)} (h : InsA K C' C b) (t : InsL K C L) : InsL K C ((C', b) :: L)
theorem InsL.look {K : PySem.W.Frag} {C C' : Str} {b : Bool} {L : List (Str × Bool)} (h : InsL K C L) (e : L.lookup C' = some b) : InsA K C' C b := by
  induction h with
  | nil => cases e
  | @cons C2 b2 L2 h t ih =>
    rw [List.lookup_cons] at e
    by_cases q : C' = C2
    · subst q
      have z : (C' == C') = true := by simp
      rw [z] at e
      cases e
      exact h
    · have z : (C' == C2) = false := by simpa using q
      rw [z] at e
      exact ih e
end DD
namespace DD
open PySem PySem.Spec PyProof.Rows L2
def permL {α : Type} (idx : List Nat) (l : List α) : List α := idx.filterMap (l[·]?)
theorem vals_perm {vs : List V} {us : List Value} (r : Vals vs us) : ∀ idx : List Nat, Vals (permL idx vs) (permL idx us)
  | [] => .nil
  | i :: idx => by
    have ih := vals_perm r idx
    unfold permL at ih ⊢
    rw [List.filterMap_cons, List.filterMap_cons]
    have hl := r.length
    by_cases h : i < vs.length
    · obtain ⟨u, e1, e2⟩ := Vals.get r (List.getElem?_eq_getElem h)
      rw [List.getElem?_eq_getElem h, e1]
      exact .cons e2 ih
    · rw [List.getElem?_eq_none (by omega), List.getElem?_eq_none (by omega)]
      exact ih
theorem dens_perm {K : PySem.W.Frag} {F : Hp} {ds : List D} {vs : List V} (r : Dens K F ds vs) : ∀ idx : List Nat, Dens K F (permL idx ds) (permL idx vs)
  | [] => rfl
  | i :: idx => by
    have ih := dens_perm r idx
    unfold permL at ih ⊢
    rw [List.filterMap_cons, List.filterMap_cons]
    have hl := Dens.length r
    by_cases h : i < ds.length
    · obtain ⟨v, e1, e2⟩ := Dens.get r (List.getElem?_eq_getElem h)
      rw [List.getElem?_eq_getElem h, e1]
      exact dens_cons e2 ih
    · rw [List.getElem?_eq_none (by omega), List.getElem?_eq_none (by omega)]
      exact ih
theorem kbn_of {K : PySem.W.Frag} {x qual : Str} {params : Arguments} {body : List Stmt} {scope : Scope} {f : Addr} {fd : FuncData} {ps : List Str} (F : FunD K x qual params body scope [] [] f fd) (n : Nat) (ks : List Str) (idx : List Nat)
    (h : ∀ (kV doc pm : Value) (an : Option Addr) (cdv ct : Value) (us ws : List Value), us.length = n → ws.length = ks.length → bindArgs (PySem.W.fnOf x qual params body scope .none kV doc pm an cdv ct) ⟨us, ks.zip ws⟩ = pure (ps.zip (permL idx (us ++ ws)))) :
    KBn K fd ps n ks (fun us ws => permL idx (us ++ ws)) (fun vs zs => permL idx (vs ++ zs)) := by
  obtain ⟨oc, od, dV, kV, doc, pm, an, cdv, ct, osl, rfl, lk, hcd, hD, hK⟩ := F.ex
  rcases hD with ⟨_, rfl⟩ | ⟨e, _⟩
  · exact ⟨fun s us ws _ h1 h2 => .of_eq (h kV doc pm an cdv ct us ws h1 h2), fun r1 r2 => vals_perm (r1.append r2) idx⟩
  · exact absurd rfl e
structure PDK (X : Cx) (W : WX) (kws : List Keyword) (t : TA) (m : MA) : Prop where
  pk : PK X kws t
  sn : Sn X.K W (Dens X.K) emp t m
section
variable {X : Cx} {CX : CXT} {W : WX} {k n : Nat} {f : Addr} {fd : FuncData} {ps ks : List Str} {sp : Sp} {E : L2.St → XK} {x : Str} {p pos kpos : Pos} {e : Expr} {es : List Expr} {kws : List Keyword} {t tk : TA} {te : TE} {m mk : MA} {me : MD} {g : List Value → List Value → List Value} {gV : List V → List V → List V} {nm : Option Str}
theorem pdk_nil : PDK X W [] tNil mNil := ⟨pk_nil, sn_nil⟩
theorem pdk_cons (ha : PD X W e te me) (hr : PDK X W kws t m) : PDK X W (⟨nm, e, kpos⟩ :: kws) (tCons te t) (mCons me m) := ⟨pk_cons ha.pe hr.pk, sn_cons ha.sn hr.sn⟩
theorem run_fnKG {pins : List (Addr × Obj)} {σ : L2.St} {H : Hp} {s : Shared} {Q : VK} {us ws : List Value} {vs zs : List V} (F : FnG X.prog X.w X.K X.mg X.base CX k f fd ps sp) (hr : Roam k X.A) (hb : KBn X.K fd ps n ks g gV) (hx : PassesAt CX X σ (E σ))
    (I : Inv X pins σ H s) (r : Vals vs us) (rz : Vals zs ws) (l1 : vs.length = n) (l2 : zs.length = ks.length) (h : sp (gV vs zs) H Q (E σ)) : wpAny (model X.prog X.w) X.A (call (.ref f) us (ks.zip ws)) (EP X pins σ Q) X.xe s := by
  have r2 := hb.rel r rz
  refine wpAny_call (codeAny_mono (F.run X.A X.stack s H ⟨us, ks.zip ws⟩ (g us ws) (gV vs zs) Q (E σ) hr I.env0 (hb.to s us ws I.kIn (r.length.symm.trans l1) (rz.length.symm.trans l2)) r2 h) fun r s' hq => ?_)
  cases r with
  | error e => exact hx pins H s e s' I hq
  | ok fl =>
    cases fl with
    | ret u => exact I.after hq
    | next => exact False.elim hq
    | brk => exact False.elim hq
    | cont => exact False.elim hq
end
end DD
namespace DD
open PySem PySem.Spec PyProof.Rows L2
def rngDn (i : Int) (n : Nat) : List D := (List.range n).map fun k => .int (i - (k : Nat))
def rngD3 : List D → Option (List D)
  | [.int i, .int j, .int c] => if (smallI i && smallI j && decide (c = -1)) = true then some (rngDn i (i - j).toNat) else none
  | _ => none
def mRng3 (a : MA) : MA := fun env => (a env).bind fun xs e => ofO (rngD3 xs) e
end DD
namespace DD
open PySem PySem.Spec PyProof.Rows L2
def keyD : D → Option Key
  | .int i => some (.inl i)
  | .str s => some (.inr s)
  | _ => none
def kD : Key → D
  | .inl i => .int i
  | .inr s => .str s
@[simp] theorem keyD_kD (k : Key) : keyD (kD k) = some k := by cases k <;> rfl
section
variable {κ α : Type} [DecidableEq κ]
def inX (ks : List κ) (k : κ) : Bool := decide (k ∈ ks)
def getX : List κ → List α → κ → Option α
  | k' :: ks, x :: xs, k => if k' = k then some x else getX ks xs k
  | _, _, _ => none
end
theorem own_oD {K : PySem.W.Frag} {F H : Hp} {a : Addr} {ks : List Key} {vs : List V} {ds : List D} (h : H a = some (.dK (ks.zip vs))) (l : ks.length = vs.length) (d : Dens K F ds vs) : OwnAt K F H (oD ks ds) (.ref a) [a] := ⟨a, vs, [], rfl, rfl, h, l, owns_map d⟩
/-- tuples of ints and texts that are not locked, as keys -/
def keysD : List D → Option (List Key)
  | [] => some []
  | d :: r => (keyD d).bind fun k => (keysD r).map (k :: ·)
def tkD : D → Option (List Key)
  | .wtp ds => keysD ds
  | _ => none
def tK (k : List Key) : D := .wtp (k.map kD)
theorem keysD_map : ∀ k : List Key, keysD (k.map kD) = some k
  | [] => rfl
  | k :: r => by rw [List.map_cons, keysD, keyD_kD, Option.bind_some, keysD_map r]; rfl
@[simp] theorem tkD_tK (k : List Key) : tkD (tK k) = some k := keysD_map k
section
variable {X : Cx} {W : WX} {fx : List Nat} {pos pos' p apos npos cpos tpos : Pos} {x : Str} {e ke ve : Expr} {te tk tv : TE} {me mk mv : MD} {i : Nat}
def mDNew : MO := fun env => .ok (.dct [] []) env
theorem pdo_dnew : PDO X W (.Dict [] [] pos) tDNewK mDNew := by
  refine ⟨pe_dnewK, fun F H σ env fp Q R h a hp => ?_⟩
  obtain ⟨N0, N1⟩ := R.newO (u := .dK []) (o := oD [] []) hp (own_oD (vs := []) upd_same rfl dens_nil)
  exact h F _ [a] fp (.ref a) N1 N0
end
end DD
namespace DD
open PySem PySem.Spec PyProof.Rows L2
section
variable {X : Cx} {W : WX} {fx : List Nat} {pos pos' p apos npos cpos tpos : Pos} {x : Str} {e ke ve o tg : Expr} {te tk tv td : TE} {me mk mv md : MD} {i : Nat}
def inF : D → D → Option Bool
  | .dct ks _, k => (keyD k).map (inX ks)
  | .dtt ks _, k => (tkD k).map (inX ks)
  | _, _ => none
def getF : D → D → Option D
  | .dct ks ds, k => (keyD k).bind fun kk => getX ks ds kk
  | .dtt ks ds, k => (tkD k).bind fun kk => getX ks ds kk
  | _, _ => none
def mDInF (b : Bool) (mk md : MD) : MD := fun env => (mk env).bind fun k e => (md e).bind fun d e2 => ofO ((inF d k).map fun c => .bl (b == c)) e2
def mDGet (md mk : MD) : MD := fun env => (md env).bind fun d e => (mk e).bind fun k e2 => ofO (getF d k) e2
end
end DD
namespace DD
open PySem PySem.Spec PyProof.Rows L2
end DD
namespace DD
open PySem PySem.Spec PyProof.Rows L2
end DD
namespace DD
open PySem PySem.Spec PyProof.Rows L2
end DD
namespace DD
open PySem PySem.Spec PyProof.Rows L2
end DD
namespace DD
open PySem PySem.Spec PyProof.Rows L2
end DD
namespace DD
open PySem PySem.Spec PyProof.Rows L2
end DD
namespace DD
open PySem PySem.Spec PyProof.Rows L2
end DD
namespace DD
open PySem PySem.Spec PyProof.Rows L2
end DD
namespace DD
open PySem PySem.Spec PyProof.Rows L2
end DD
namespace DD
open PySem PySem.Spec PyProof.Rows L2
end DD
namespace DD
open PySem PySem.Spec PyProof.Rows L2
def tMethS2 (C : Addr) (m : Str) (sp : Sp) (E : L2.St → XK) (ta : TE) (t : TA) : TE := fun σ H Q => ta σ H fun x H1 => ∃ a dx fs, x = .ref a ∧ H1 a = some (.ins C dx fs) ∧ fs.lookup m = none ∧ t σ H1 fun vs H2 => sp (x :: vs) H2 Q (E σ)
def tMethKS (C : Addr) (m : Str) (n : Nat) (sp : Sp) (gV : List V → List V → List V) (E : L2.St → XK) (ta : TE) (tk : TA) : TE := fun σ H Q => ta σ H fun x H1 => ∃ a dx fs, x = .ref a ∧ H1 a = some (.ins C dx fs) ∧ fs.lookup m = none ∧ tk σ H1 fun zs H2 => zs.length = n ∧ sp (gV [x] zs) H2 Q (E σ)
/-- the method m of the class C -/
structure MethD (P : Program) (w : World) (K : PySem.W.Frag) (mg : Str → Option Value) (base : Heap) (k : Nat) (C m : Str) (N : Nat) (f : List D → RP) : Prop where
  ex : ∃ g fd ps, Meth K (cadr K C) m g ∧ Binds K fd ps [] ∧ FnG P w K mg base (L2.CX P w) k g fd ps (spP K N f)
structure MethPK (P : Program) (w : World) (K : PySem.W.Frag) (mg : Str → Option Value) (base : Heap) (k : Nat) (C m : Str) (ks : List Str) (idx : List Nat) (N : Nat) (f : List D → RP) : Prop where
  ex : ∃ g fd ps, Meth K (cadr K C) m g ∧ KBn K fd ps 1 ks (fun us ws => permL idx (us ++ ws)) (fun vs zs => permL idx (vs ++ zs)) ∧ FnG P w K mg base (L2.CX P w) k g fd ps (spP K N f)
def mMeth (C m : Str) (f : List D → RP) (a : MD) (ms : MA) : MD := fun env => (a env).bind fun d e => match d with
  | .ins C' ns ds => if C' = C ∧ m ∉ ns then (ms e).bind fun es e2 => (match f (.ins C' ns ds :: es) with
    | .ok r => .ok r e2
    | .exc x => .exc x e2
    | _ => .fail) else .fail
  | _ => .fail
def mMethK (C m : Str) (f : List D → RP) (idx : List Nat) (a : MD) (ms : MA) : MD := fun env => (a env).bind fun d e => match d with
  | .ins C' ns ds => if C' = C ∧ m ∉ ns then (ms e).bind fun es e2 => (match f (permL idx ([.ins C' ns ds] ++ es)) with
    | .ok r => .ok r e2
    | .exc x => .exc x e2
    | _ => .fail) else .fail
  | _ => .fail
theorem lookup_none {m : Str} : ∀ {ns : List Str} {vs : List V}, m ∉ ns → (ns.zip vs).lookup m = none
  | [], _, _ => rfl
  | _ :: _, [], _ => rfl
  | n :: ns, v :: vs, h => by
    rw [List.zip_cons_cons, List.lookup_cons]
    have h1 : (m == n) = false := beq_eq_false_iff_ne.mpr fun e => h (by rw [e]; exact List.mem_cons_self)
    rw [h1]
    exact lookup_none fun z => h (List.mem_cons_of_mem _ z)
section
variable {X : Cx} {CX : CXT} {W : WX} {k n j N : Nat} {f : Addr} {fd : FuncData} {ps ks : List Str} {sp : Sp} {E : L2.St → XK} {x C m : Str} {p pos apos : Pos} {e o : Expr} {es : List Expr} {kws : List Keyword} {ta : TE} {t tk : TA} {me : MD} {ms : MA} {g : List Value → List Value → List Value} {gV : List V → List V → List V}
theorem pe_methG2 {Ca : Addr} {pl : Sem Bool} (he : PE X o ta) (c : Cls X.K Ca) (hm : Meth X.K Ca m f) (F : FnG X.prog X.w X.K X.mg X.base CX k f fd ps sp) (hr : Roam k X.A) (hb : Binds X.K fd ps []) (hx : ∀ σ, PassesAt CX X σ (E σ)) (ha : PA X (e :: es) t)
    (hst : starEach (e :: es) X.env = (false, eval e X.env) :: starEach es X.env := by rfl) (hpl : (backTo pos (starEach es X.env)).any (·.1) = false := by rfl)
    (ht : eval (.Call (.Attribute o m apos) (e :: es) [] pos) X.env = (do
      let ov ← eval o X.env
      standAt apos.atName
      let (f, first) ← holding [ov] (getMethod ov m pl)
      callWith pos f first (backTo pos (starEach (e :: es) X.env)) (backToKw pos (keywordEach [] X.env))) := by rfl) :
    PE X (.Call (.Attribute o m apos) (e :: es) [] pos) (tMethS2 Ca m sp E ta t) := by
  refine ⟨fun pins s σ H Q I h => ?_⟩
  refine PySem.W.methodCall_KW (pl := pl) (thn (he.run pins s σ H _ I h) fun u s1 ⟨x, H1, I1, rx, a, dx, fs, ex, ea, l, q⟩ => ?_) ht
  subst ex
  obtain rfl : u = Value.ref a := rx
  refine getmeth_ok I1 ea c hm l ?_
  refine PySem.W.callWith_K (first := [.ref a]) (h₀ := X.base) I.ok.mod.kin hm.kp (thn (ha.run pos pins s1 σ H1 _ I1 q) fun us s2 ⟨vs, H2, I2, r, q2⟩ => ⟨I2.kIn, ?_⟩) hst hpl
  exact run_fnG (us := .ref a :: us) (vs := .ref a :: vs) F hr hb (hx σ) I2 (.cons rfl r) q2
theorem pe_methKG {Ca : Addr} {pl : Sem Bool} (he : PE X o ta) (c : Cls X.K Ca) (hm : Meth X.K Ca m f) (F : FnG X.prog X.w X.K X.mg X.base CX k f fd ps sp) (hr : Roam k X.A) (hb : KBn X.K fd ps 1 ks g gV) (hx : ∀ σ, PassesAt CX X σ (E σ)) (hkw : PK X kws tk)
    (hall : (backToKw pos (keywordEach kws X.env)).all (·.1.isSome) = true := by rfl) (hks : (backToKw pos (keywordEach kws X.env)).filterMap (·.1) = ks := by rfl)
    (hpl : ((backTo pos (starEach [] X.env)).any (·.1) || (backToKw pos (keywordEach kws X.env)).any (·.1.isNone)) = false := by rfl)
    (ht : eval (.Call (.Attribute o m apos) [] kws pos) X.env = (do
      let ov ← eval o X.env
      standAt apos.atName
      let (f, first) ← holding [ov] (getMethod ov m pl)
      callWith pos f first (backTo pos (starEach [] X.env)) (backToKw pos (keywordEach kws X.env))) := by rfl) :
    PE X (.Call (.Attribute o m apos) [] kws pos) (tMethKS Ca m ks.length sp gV E ta tk) := by
  refine ⟨fun pins s σ H Q I h => ?_⟩
  refine PySem.W.methodCall_KW (pl := pl) (thn (he.run pins s σ H _ I h) fun u s1 ⟨x, H1, I1, rx, a, dx, fs, ex, ea, l, q⟩ => ?_) ht
  subst ex
  obtain rfl : u = Value.ref a := rx
  refine getmeth_ok I1 ea c hm l ?_
  refine PySem.W.callWith_KW0 (first := [.ref a]) (h₀ := X.base) I.ok.mod.kin hm.kp hall ?_ hpl
  refine thn (hkw.run pos pins s1 σ H1 _ I1 q) fun ws s2 ⟨zs, H2, I2, rz, l2, q2⟩ => ⟨I2.kIn, ?_⟩
  rw [hks]
  exact run_fnKG (us := [.ref a]) (vs := [.ref a]) F hr hb (hx σ) I2 (.cons rfl .nil) rz rfl l2 q2
theorem sn_meth {K : PySem.W.Frag} {f : List D → RP} (h : Sn K W (Den K) emp ta me) (h2 : Sn K W (Dens K) emp t ms) (hn : ArgN n ms) :
    Sn K W (Den K) emp (tMethS2 (cadr K C) m (spP K (n + 1) f) (WE W) ta t) (mMeth C m f me ms) := by
  intro F H σ env fp Q _ R hq
  refine h.go ex_emp R hq fun F1 H1 fp1 env1 d v P1 R1 d1 h1 => ?_
  cases d with
  | ins C' ns ds =>
    dsimp only at h1
    by_cases hC : C' = C ∧ m ∉ ns
    case neg => rw [if_neg hC] at h1; exact h1.elim
    rw [if_pos hC] at h1
    obtain ⟨rfl, hmn⟩ := hC
    have d1' := d1
    obtain ⟨a, dx, vs, r, s, l, tt⟩ := d1
    subst r
    refine ⟨a, dx, _, rfl, R1.ex.at_ _ _ s rfl, lookup_none hmn, ?_⟩
    refine h2 F1 H1 σ env1 fp1 _ ex_emp R1 ?_
    cases hm : ms env1 with
    | fail =>
      rw [hm] at h1
      exact h1
    | exc x e =>
      rw [hm] at h1
      exact h1
    | ok es e2 =>
      rw [hm] at h1
      intro F2 H2 fp2 zs P2 R2 d2
      have h3 := Out.step P2 h1
      rw [Rs.bind_ok] at h3
      have l1 := hn _ _ _ hm
      refine ⟨by rw [List.length_cons, ← Dens.length d2, l1], F2, .ins C' ns ds :: es, R2.exk, dens_cons (Den.mono P2.f _ _ d1') d2, ?_⟩
      cases hf : f (.ins C' ns ds :: es) with
      | ok d =>
        rw [hf] at h3
        exact fun F' H' v g dd => h3 F' H' fp2 v g.po (R2.grow g) dd
      | exc x =>
        rw [hf] at h3
        exact fun F' H' c dd g z => h3 F' H' fp2 c dd g.po (R2.grow g) z
      | oo o =>
        rw [hf] at h3
        exact h3.elim
      | fail =>
        rw [hf] at h3
        exact h3.elim
  | _ => exact h1.elim
theorem sn_methK {K : PySem.W.Frag} {f : List D → RP} {idx : List Nat} (h : Sn K W (Den K) emp ta me) (h2 : Sn K W (Dens K) emp t ms) (hn : ArgN n ms) (hN : ∀ l : List V, l.length = 1 + n → (permL idx l).length = N) :
    Sn K W (Den K) emp (tMethKS (cadr K C) m n (spP K N f) (fun vs zs => permL idx (vs ++ zs)) (WE W) ta t) (mMethK C m f idx me ms) := by
  intro F H σ env fp Q _ R hq
  refine h.go ex_emp R hq fun F1 H1 fp1 env1 d v P1 R1 d1 h1 => ?_
  cases d with
  | ins C' ns ds =>
    dsimp only at h1
    by_cases hC : C' = C ∧ m ∉ ns
    case neg => rw [if_neg hC] at h1; exact h1.elim
    rw [if_pos hC] at h1
    obtain ⟨rfl, hmn⟩ := hC
    have d1' := d1
    obtain ⟨a, dx, vs, r, s, l, tt⟩ := d1
    subst r
    refine ⟨a, dx, _, rfl, R1.ex.at_ _ _ s rfl, lookup_none hmn, ?_⟩
    refine h2 F1 H1 σ env1 fp1 _ ex_emp R1 ?_
    cases hm : ms env1 with
    | fail =>
      rw [hm] at h1
      exact h1
    | exc x e =>
      rw [hm] at h1
      exact h1
    | ok es e2 =>
      rw [hm] at h1
      intro F2 H2 fp2 zs P2 R2 d2
      have h3 := Out.step P2 h1
      rw [Rs.bind_ok] at h3
      have l1 := hn _ _ _ hm
      have lz : zs.length = n := by rw [← Dens.length d2, l1]
      have dd : Dens K F2 ([.ins C' ns ds] ++ es) ([.ref a] ++ zs) := Dens.append (dens_cons (Den.mono P2.f _ _ d1') dens_nil) d2
      refine ⟨lz, hN _ (by rw [List.length_append, lz]; rfl), F2, permL idx ([.ins C' ns ds] ++ es), R2.exk, dens_perm dd idx, ?_⟩
      cases hf : f (permL idx ([.ins C' ns ds] ++ es)) with
      | ok d =>
        rw [hf] at h3
        exact fun F' H' v g dd => h3 F' H' fp2 v g.po (R2.grow g) dd
      | exc x =>
        rw [hf] at h3
        exact fun F' H' c dd g z => h3 F' H' fp2 c dd g.po (R2.grow g) z
      | oo o =>
        rw [hf] at h3
        exact h3.elim
      | fail =>
        rw [hf] at h3
        exact h3.elim
  | _ => exact h1.elim
/-- o.m(e, ..) -/
theorem pd_meth {f : List D → RP} {pl : Sem Bool} (G : MethD X.prog X.w X.K X.mg X.base k C m (n + 1) f) (c : Cls X.K (cadr X.K C)) (hr : Roam k X.A) (tk' : Takes X W) (hn : ArgN n ms) (he : PD X W o ta me) (ha : PDA X W (e :: es) t ms)
    (hst : starEach (e :: es) X.env = (false, eval e X.env) :: starEach es X.env := by rfl) (hpl : (backTo pos (starEach es X.env)).any (·.1) = false := by rfl)
    (ht : eval (.Call (.Attribute o m apos) (e :: es) [] pos) X.env = (do
      let ov ← eval o X.env
      standAt apos.atName
      let (f, first) ← holding [ov] (getMethod ov m pl)
      callWith pos f first (backTo pos (starEach (e :: es) X.env)) (backToKw pos (keywordEach [] X.env))) := by rfl) :
    PD X W (.Call (.Attribute o m apos) (e :: es) [] pos) (tMethS2 (cadr X.K C) m (spP X.K (n + 1) f) (WE W) ta t) (mMeth C m f me ms) := by
  obtain ⟨g, fd, ps, hm, b, F⟩ := G.ex
  exact ⟨pe_methG2 (pl := pl) he.pe c hm F hr b (fun σ => passAt tk' σ) ha.pa hst hpl ht, sn_meth he.sn ha.sn hn⟩
/-- o.m(k = v, ..) -/
theorem pd_methK {f : List D → RP} {idx : List Nat} {pl : Sem Bool} (G : MethPK X.prog X.w X.K X.mg X.base k C m ks idx N f) (c : Cls X.K (cadr X.K C)) (hr : Roam k X.A) (tk' : Takes X W) (hj : ArgN j ms) (hkl : ks.length = j) (hN : ∀ l : List V, l.length = 1 + j → (permL idx l).length = N) (he : PD X W o ta me) (hkw : PDK X W kws t ms)
    (hall : (backToKw pos (keywordEach kws X.env)).all (·.1.isSome) = true := by rfl) (hks : (backToKw pos (keywordEach kws X.env)).filterMap (·.1) = ks := by rfl)
    (hpl : ((backTo pos (starEach [] X.env)).any (·.1) || (backToKw pos (keywordEach kws X.env)).any (·.1.isNone)) = false := by rfl)
    (ht : eval (.Call (.Attribute o m apos) [] kws pos) X.env = (do
      let ov ← eval o X.env
      standAt apos.atName
      let (f, first) ← holding [ov] (getMethod ov m pl)
      callWith pos f first (backTo pos (starEach [] X.env)) (backToKw pos (keywordEach kws X.env))) := by rfl) :
    PD X W (.Call (.Attribute o m apos) [] kws pos) (tMethKS (cadr X.K C) m j (spP X.K N f) (fun vs zs => permL idx (vs ++ zs)) (WE W) ta t) (mMethK C m f idx me ms) := by
  subst hkl
  obtain ⟨g, fd, ps, hm, b, F⟩ := G.ex
  exact ⟨pe_methKG (pl := pl) he.pe c hm F hr b (fun σ => passAt tk' σ) hkw.pk hall hks hpl ht, sn_methK he.sn hkw.sn hj hN⟩
end
end DD
namespace DD
open PySem PySem.Spec PyProof.Rows L2
end DD
namespace DD
open PySem PySem.Spec PyProof.Rows L2
end DD
namespace DD
open PySem PySem.Spec PyProof.Rows L2
end DD
namespace DD
open PySem PySem.Spec PyProof.Rows L2
end DD
namespace DD
open PySem PySem.Spec PyProof.Rows L2
theorem dens_rep {K : PySem.W.Frag} {F : Hp} {ds : List D} {vs : List V} (h : Dens K F ds vs) : ∀ k : Nat, Dens K F (List.replicate k ds).flatten (List.replicate k vs).flatten
  | 0 => dens_nil
  | k + 1 => by
    rw [List.replicate_succ, List.replicate_succ, List.flatten_cons, List.flatten_cons]
    exact Dens.append h (dens_rep h k)
end DD
namespace DD
open PySem PySem.Spec PyProof.Rows L2 PySem.W
end DD
namespace DD
open PySem PySem.Spec PyProof.Rows L2
end DD
namespace DD
open PySem PySem.Spec PyProof.Rows L2
end DD
namespace DD
open PySem PySem.Spec PyProof.Rows L2
end DD
namespace DD
open PySem PySem.Spec PyProof.Rows L2
inductive Stp where
  | fld (C n : Str)
  | key (d : D)
def stepO : O → Stp → Option O
  | .ins C' ns os, .fld C n => if C' = C then getX ns os n else none
  | .dct ks os, .key d => (keyD d).bind fun k => getX ks os k
  | .dtt ks os, .key d => (tkD d).bind fun k => getX ks os k
  | _, _ => none
def walkO : O → List Stp → Option O
  | o, [] => some o
  | o, s :: r => (stepO o s).bind fun o1 => walkO o1 r
end DD
namespace DD
open PySem PySem.Spec PyProof.Rows L2
abbrev MP := DEnv → Option (List Stp)
/-- the tree at a path of a slot -/
def atP (i : Nat) (ps : MP) (env : DEnv) : Option O := match env[i]? with
  | some (some o) => (ps env).bind fun st => walkO o st
  | _ => none
end DD
namespace DD
open PySem PySem.Spec PyProof.Rows L2
end DD
namespace DD
open PySem PySem.Spec PyProof.Rows L2
end DD
namespace DD
open PySem PySem.Spec PyProof.Rows L2
end DD
namespace DD
open PySem PySem.Spec PyProof.Rows L2
end DD
namespace DD
open PySem PySem.Spec PyProof.Rows L2
def tabB (x : Str) (kis : List (Str × Int)) : BoolX := fun K => kis.all fun q => match PySem.W.nsIn K (He.ga K x) q.1 with
  | some (some (.int i _)) => decide (i = q.2)
  | _ => false
end DD
namespace DD
open PySem PySem.Spec PyProof.Rows L2
end DD
namespace DD
open PySem PySem.Spec PyProof.Rows L2
end DD
set_option maxHeartbeats 2000000
namespace DD
open PySem PySem.Spec PyProof.Rows L2
end DD
namespace DD
open PySem PySem.Spec PyProof.Rows L2
end DD
set_option maxHeartbeats 200000
namespace DD
open PySem PySem.Spec PyProof.Rows L2
end DD
namespace DD
open PySem PySem.Spec PyProof.Rows L2
end DD
set_option maxHeartbeats 1000000
namespace DD
open PySem PySem.Spec PyProof.Rows L2
def noE : XK := fun _ _ _ => False
section
variable {X : Cx} {W : WX} {k : Nat} {f C : Addr} {fd : FuncData} {ps : List Str} {sp : Sp}
theorem passN {σ : L2.St} : PassesAt (L2.CX X.prog X.w) X σ noE := fun _ _ _ _ _ _ c => by
  obtain ⟨_, _, _, _, _, _, _, _, _, _, _, _, h⟩ := c
  exact h.elim
/-- the call of a def somewhere below the running body -/
theorem run_below {A : Around} (hA : A.frames = X.A.frames) (hr : Roam k A) (F : FnG X.prog X.w X.K X.mg X.base (L2.CX X.prog X.w) k f fd ps sp) (hb : Binds X.K fd ps []) {pins : List (Addr × Obj)} {σ : L2.St} {H : Hp} {s : Shared} {Q : VK} {us : List Value} {vs : List V}
    (I : Inv X pins σ H s) (r : Vals vs us) (h : sp vs H Q noE) : wpAny (model X.prog X.w) A (call (.ref f) us) (EP X pins σ Q) X.xe s := by
  have hl : us.length = ps.length := by rw [← r.length]; exact F.len _ _ _ _ h
  have b := hb s us I.kIn (by rw [List.append_nil]; exact hl)
  rw [List.append_nil] at b
  have e := I.env0
  have e0 : Env0 X.prog X.w X.K X.mg X.base A X.stack s H := ⟨by rw [hA]; exact e.frames, e.mod, e.bs, e.bsz, e.funs, e.frf, e.hok, e.bare⟩
  refine wpAny_call (codeAny_mono (F.run A X.stack s H ⟨us, []⟩ us vs Q noE hr e0 b r h) fun r s' hq => ?_)
  cases r with
  | error e => exact passN (σ := σ) pins H s e s' I hq
  | ok fl =>
    cases fl with
    | ret u => exact I.after hq
    | next => exact False.elim hq
    | brk => exact False.elim hq
    | cont => exact False.elim hq
end
end DD
namespace DD
open PySem PySem.Spec PyProof.Rows L2
section
variable {X : Cx} {W : WX} {k : Nat} {f C : Addr} {fd : FuncData} {ps : List Str} {sp : Sp}
def rStrI (C : Addr) (sp : Sp) : List V → Hp → VK → Prop := fun xs H Q => ∃ a dx fs, xs = [.ref a] ∧ H a = some (.ins C dx fs) ∧ sp [.ref a] H (fun v H' => ∃ y, v = .str y ∧ Q v H') noE
theorem call_strI (hm : Meth X.K C "__str__" f) (F : FnG X.prog X.w X.K X.mg X.base (L2.CX X.prog X.w) k f fd ps sp) (hb : Binds X.K fd ps []) (hr : Roam (k + 2) X.A) : CallR X (.type "str") (rStrI C sp) := by
  intro pins s σ H xs us Q I r h
  obtain ⟨a, dx, fs, rfl, ha, q⟩ := h
  obtain ⟨u, rfl, rx⟩ := vals1 r
  cases rx
  obtain ⟨mA, J, _⟩ := ins_get I.hok ha
  obtain ⟨od, J, _⟩ := J.look
  refine PySem.W.kso_call hr.in1.in1.room.units0 I.kIn J hm.at_ hm.fn ?_
  refine wpAny_mono (run_below (A := X.A.in1.in1) (us := [.ref a]) (vs := [V.ref a]) rfl hr.in1.in1 F hb I (.cons rfl .nil) q) (fun r s' hq => ?_) fun _ _ z => z
  obtain ⟨v, H', I', rv, y, rfl, q'⟩ := hq
  obtain ⟨t, rfl⟩ := rv
  exact ⟨.str y, H', I', ⟨t, rfl⟩, q'⟩
end
def mStrI (C : Str) (f : List D → RP) (a : MD) : MD := fun env => (a env).bind fun x e1 => match x with
  | .ins C1 n1 d1 => if C1 = C then (match f [.ins C1 n1 d1] with
    | .ok (.str r) => .ok (.str r) e1
    | _ => .fail) else .fail
  | _ => .fail
section
variable {X : Cx} {W : WX} {k : Nat} {C : Str} {f : List D → RP} {pos : Pos} {a b e : Expr} {ta tb te : TE} {ma mb me : MD}
theorem spP_call {K : PySem.W.Frag} {N : Nat} {F H : Hp} {ds : List D} {vs : List V} {Q : VK} {r : D} (e : FHK K F H) (h : Dens K F ds vs) (hn : vs.length = N) (hf : f ds = .ok r) (k : ∀ F' H' v, Gr F H F' H' → Den K F' r v → Q v H') : spP K N f vs H Q noE := by
  refine ⟨hn, F, ds, e, h, ?_⟩
  rw [hf]
  exact k
theorem sn_strI {K : PySem.W.Frag} (ha : Sn K W (Den K) emp ta ma) : Sn K W (Den K) emp (tCB (rStrI (cadr K C) (spP K 1 f)) (tCons ta tNil)) (mStrI C f ma) := by
  intro F H σ env fp Q _ R h
  refine ha.go ex_emp R h fun F1 H1 fp1 env1 x v P1 R1 d1 h1 => ?_
  cases x with
  | ins C1 n1 z1 =>
    dsimp only at h1
    by_cases hC : C1 = C
    case neg => rw [if_neg hC] at h1; exact h1.elim
    rw [if_pos hC] at h1
    subst hC
    have e1 := d1
    obtain ⟨a, dx, vs, rfl, s1, l1, t1⟩ := d1
    refine ⟨a, dx, _, rfl, R1.ex.at_ _ _ s1 rfl, ?_⟩
    cases hf : f [.ins C1 n1 z1] with
    | ok r =>
      rw [hf] at h1
      cases r with
      | str r => exact spP_call R1.exk (dens_cons e1 dens_nil) rfl hf fun F' H' v g dv => ⟨r, dv, h1 F' H' fp1 _ g.po (R1.grow g) dv⟩
      | _ => exact h1.elim
    | _ =>
      rw [hf] at h1
      exact h1.elim
  | _ => exact h1.elim
theorem pd_strI (G : MethD X.prog X.w X.K X.mg X.base k C "__str__" 1 f) (hr : Roam (k + 2) X.A) {x : Str} {p : Pos} (hg : Gl X x) (hm : X.mg x = none) (hv : bootBuiltins x = some (.type "str")) (ha : PD X W e te me) (hn : x ≠ "__name__" := by decide) (hdb : (x == ("__debug__" : Str)) = false := by decide)
    (he : starEach [e] X.env = (false, eval e X.env) :: starEach [] X.env := by rfl) (hpl : (backTo pos (starEach [] X.env)).any (·.1) = false := by rfl) : PD X W (.Call (.Name x p) [e] [] pos) (tCB (rStrI (cadr X.K C) (spP X.K 1 f)) (tCons te tNil)) (mStrI C f me) := by
  obtain ⟨g, fd, ps, hm', b', F⟩ := G.ex
  exact ⟨pe_callTy (call_strI hm' F b' hr) hg hm hv (pa_cons ha.pe pa_nil he) hn hdb he hpl, sn_strI ha.sn⟩
def joinD (x y : D) : Option D := match x, y with
  | .str a, .lst ds => (strsD ds).bind fun ys => if (ys.map (·.length)).sum + ys.length * a.length ≤ 16777216 then some (.str (Txt.join a ys)) else none
  | .str a, .tup ds => (strsD ds).bind fun ys => if (ys.map (·.length)).sum + ys.length * a.length ≤ 16777216 then some (.str (Txt.join a ys)) else none
  | _, _ => none
def mJoin (a b : MD) : MD := fun env => (a env).bind fun x e1 => match x with
  | .str s => (b e1).bind fun y e2 => ofO (joinD (.str s) y) e2
  | _ => .fail
abbrev rJoin (K : PySem.W.Frag) : V → List V → Hp → VK → Prop := fun x xs H Q => ∃ a p, ∃ ys : List Str, x = .str a ∧ xs = [.ref p] ∧ (SqL K H p (ys.map V.str) ∨ SqT K H p (ys.map V.str)) ∧ (ys.map (·.length)).sum + ys.length * a.length ≤ 16777216 ∧ Q (.str (Txt.join a ys)) H
theorem sn_join {K : PySem.W.Frag} (ha : Sn K W (Den K) emp ta ma) (hb : Sn K W (Den K) emp tb mb) : Sn K W (Den K) emp (tM1 (rJoin K) ta tb) (mJoin ma mb) := by
  intro F H σ env fp Q _ R h
  refine ha.go ex_emp R h fun F1 H1 fp1 env1 x v P1 R1 d1 h1 => ?_
  cases x with
  | str s =>
    have ev : v = .str s := d1
    subst ev
    refine ⟨⟨s, rfl⟩, ?_⟩
    refine hb.go ex_emp R1 h1 fun F2 H2 fp2 env2 y u P2 R2 d2 h2 => ?_
    obtain ⟨z, e1, k⟩ := out_ofO R2 h2
    cases y with
    | lst ds =>
      obtain ⟨ys, e2, e3⟩ := Option.bind_eq_some_iff.mp e1
      by_cases hz : (ys.map (·.length)).sum + ys.length * s.length ≤ 16777216
      case neg => rw [if_neg hz] at e3; cases e3
      rw [if_pos hz] at e3
      cases e3
      obtain ⟨p, vs, rfl, q1, q2⟩ := d2
      have ev := strsD_vs q2 e2
      subst ev
      exact ⟨s, p, ys, rfl, rfl, .inl (.inl (R2.ex.rd q1)), hz, k F2 H2 _ (Gr.refl R2.ex) rfl⟩
    | tup ds =>
      obtain ⟨ys, e2, e3⟩ := Option.bind_eq_some_iff.mp e1
      by_cases hz : (ys.map (·.length)).sum + ys.length * s.length ≤ 16777216
      case neg => rw [if_neg hz] at e3; cases e3
      rw [if_pos hz] at e3
      cases e3
      obtain ⟨p, o, vs, rfl, q1, q0, q2⟩ := d2
      have ev := strsD_vs q2 e2
      subst ev
      exact ⟨s, p, ys, rfl, rfl, .inr (.inl (.inr ⟨o, R2.ex.at_ _ _ q1 rfl⟩)), hz, k F2 H2 _ (Gr.refl R2.ex) rfl⟩
    | _ => cases e1
  | _ => exact h1.elim
theorem pd_join {o : Expr} {apos : Pos} (ho : PD X W o ta ma) (he : PD X W e te me) (hs : starEach [e] X.env = [(false, eval e X.env)] := by rfl) (hbase : attributeBase o "join" X.env (eval o X.env) = eval o X.env := by rfl) (hline : (apos.endLine == pos.line) = true := by rfl) :
    PD X W (.Call (.Attribute o "join" apos) [e] [] pos) (tM1 (rJoin X.K) ta te) (mJoin ma me) := ⟨pe_join ho.pe he.pe hs hbase hline, sn_join ho.sn he.sn⟩
def mFmt (a : MD) : MD := fun env => (a env).bind fun x e1 => match x with
  | .str s => if s.length ≤ sizeLine then .ok (.str s) e1 else .fail
  | .int i => if i.natAbs.log2 < 1920 then .ok (.str (toString i)) e1 else .fail
  | _ => .fail
theorem pd_fmt (ha : PD X W e te me) : PD X W (.FormattedValue e (-1) none pos) (tFmt te) (mFmt me) := by
  refine ⟨pe_fmt ha.pe, fun F H σ env fp Q _ R h => ?_⟩
  refine ha.sn.go ex_emp R h fun F1 H1 fp1 env1 x v P1 R1 d1 h1 => ?_
  cases x with
  | str s =>
    dsimp only at h1
    by_cases hz : s.length ≤ sizeLine
    · rw [if_pos hz] at h1
      exact .inl ⟨s, d1, hz, h1 F1 H1 fp1 _ Po.refl R1 rfl⟩
    · rw [if_neg hz] at h1
      exact h1.elim
  | int i =>
    dsimp only at h1
    by_cases hz : i.natAbs.log2 < 1920
    · rw [if_pos hz] at h1
      exact .inr ⟨i, d1, hz, h1 F1 H1 fp1 _ Po.refl R1 rfl⟩
    · rw [if_neg hz] at h1
      exact h1.elim
  | _ => exact h1.elim
/-- the parts -/
structure PDJ (X : Cx) (W : WX) (es : List Expr) (ts : List TE) (m : Str → DEnv → Rs Str) : Prop where
  pj : PJ X es ts
  sn : ∀ (acc : Str) (F H : Hp) (σ : L2.St) (env : DEnv) (fp : List Addr) (Q : Str → Hp → Prop), Rel X.K F H σ env fp → Out X.K W (fun _ (a b : Str) => a = b) F H σ fp Q (m acc env) → tJs ts acc σ H Q
def mJnil : Str → DEnv → Rs Str := fun acc env => .ok acc env
def mJcons (a : MD) (r : Str → DEnv → Rs Str) : Str → DEnv → Rs Str := fun acc env => (a env).bind fun x e1 => match x with
  | .str y => if (acc ++ y).length ≤ sizeLine then r (acc ++ y) e1 else .fail
  | _ => .fail
def mJoined (r : Str → DEnv → Rs Str) : MD := fun env => (r Str.empty env).bind fun y e => .ok (.str y) e
theorem pdj_nil : PDJ X W [] [] mJnil := ⟨.nil, fun acc F H σ env fp Q R h => h F H fp acc Po.refl R rfl⟩
theorem pdj_cons {es : List Expr} {ts : List TE} {r : Str → DEnv → Rs Str} (ha : PD X W e te me) (hr : PDJ X W es ts r) : PDJ X W (e :: es) (te :: ts) (mJcons me r) := by
  refine ⟨.cons ha.pe hr.pj, fun acc F H σ env fp Q R h => ?_⟩
  refine ha.sn.go ex_emp R h fun F1 H1 fp1 env1 x v P1 R1 d1 h1 => ?_
  cases x with
  | str y =>
    dsimp only at h1
    by_cases hz : (acc ++ y).length ≤ sizeLine
    · rw [if_pos hz] at h1
      exact ⟨y, d1, hz, hr.sn (acc ++ y) F1 H1 σ env1 fp1 Q R1 h1⟩
    · rw [if_neg hz] at h1
      exact h1.elim
  | _ => exact h1.elim
theorem pd_joined {v1 v2 : Expr} {rest : List Expr} {ts : List TE} {r : Str → DEnv → Rs Str} (h : PDJ X W (v1 :: v2 :: rest) ts r) : PD X W (.JoinedStr (v1 :: v2 :: rest) pos) (fun σ H Q => tJs ts Str.empty σ H fun out H1 => Q (.str out) H1) (mJoined r) := by
  refine ⟨pe_joined h.pj, fun F H σ env fp Q _ R hq => ?_⟩
  refine h.sn Str.empty F H σ env fp _ R ?_
  unfold mJoined at hq
  cases hr : r Str.empty env with
  | fail => rw [hr] at hq; exact hq.elim
  | exc x e1 => rw [hr] at hq; exact hq
  | ok y e1 =>
    rw [hr, Rs.bind_ok] at hq
    intro F' H' fp' b P R' e
    subst e
    exact hq F' H' fp' _ P R' rfl
end
end DD
namespace DD
open PySem PySem.Spec PyProof.Rows L2
end DD
namespace DD
open PySem PySem.Spec PyProof.Rows L2
end DD
namespace DD
open PySem PySem.Spec PyProof.Rows L2
end DD
set_option maxHeartbeats 200000
namespace DD
open PySem PySem.Spec PyProof.Rows L2
section
variable {K : PySem.W.Frag} {F : Hp}
def del (F : Hp) (a : Addr) : Hp := fun x => if x = a then none else F x
theorem del_ne {a x : Addr} (h : x ≠ a) : del F a x = F x := if_neg h
end
end DD
namespace DD
open PySem PySem.Spec PyProof.Rows L2
def EB.nm : EB → String
  | .v => "ValueError" | .l => "LookupError" | .a => "ArithmeticError"
theorem EB.facts : ∀ b : EB, ∃ I, ExcBaseFacts b.nm b.nw I b.bm
  | .v => ⟨_, PySem.F.excBase_ValueError⟩
  | .l => ⟨_, PySem.F.excBase_LookupError⟩
  | .a => ⟨_, PySem.F.excBase_ArithmeticError⟩
theorem exmB_ok {K : PySem.W.Frag} {E C : Str} {b : Bool} (h : exmB E C b K = true) : ExmA K E C b := of_decide_eq_true h
end DD
set_option maxHeartbeats 1000000
namespace DD
open PySem PySem.Spec PyProof.Rows L2
end DD
namespace DD
open PySem PySem.Spec PyProof.Rows L2
end DD
namespace DD
open PySem PySem.Spec PyProof.Rows L2
end DD
namespace DD
open PySem PySem.Spec PyProof.Rows L2
end DD
set_option maxHeartbeats 4000000
namespace DD
open PySem PySem.W PySem.Calls PyProof.Rows PySem.HandSPX
theorem EB.store : ∀ eb : EB, StoreFacts eb.nm eb.bm "object.__setattr__" "object"
  | .v => PySem.F.store_ValueError
  | .l => PySem.F.store_LookupError
  | .a => PySem.F.store_ArithmeticError
theorem EB.ne : ∀ eb : EB, eb.bm ≠ []
  | .v => by decide
  | .l => by decide
  | .a => by decide
theorem EB.obj : ∀ eb : EB, eb.bm.contains (.type "object") = true
  | .v => by decide +kernel
  | .l => by decide +kernel
  | .a => by decide +kernel
theorem refsB_cases {eb : EB} : ∀ {l : List Value}, refsB eb l = true → (∃ c r, l = .ref c :: r ∧ refsB eb r = true) ∨ l = eb.bm := fun {l} e => by
  cases l with
  | nil => exact .inr (beq_iff_eq.mp e)
  | cons z r => cases z <;> first | exact .inl ⟨_, _, rfl, e⟩ | exact .inr (beq_iff_eq.mp e)
theorem refsB_ne {eb : EB} {l : List Value} (e : refsB eb l = true) : l.isEmpty = false := by
  cases l with
  | nil => exact absurd (beq_iff_eq.mp e).symm eb.ne
  | cons _ _ => rfl
theorem refsB_pass (eb : EB) (self : Value) : ∀ l : List Value, refsB eb l = true → refuseLoop self "__setattr__" l = pure () := by
  intro l
  induction l with
  | nil => exact fun e => absurd (beq_iff_eq.mp e).symm eb.ne
  | cons z r ih =>
    intro e
    rcases refsB_cases e with ⟨c, r', q, h⟩ | q
    · obtain ⟨rfl, rfl⟩ := List.cons.inj q
      rw [refuseLoop_ref]
      exact ih h
    · rw [q]
      exact eb.store.passes self
theorem refsB_has (eb : EB) (Y : String) : ∀ l : List Value, refsB eb l = true → l.contains (.type Y) = eb.bm.contains (.type Y) := by
  intro l
  induction l with
  | nil => exact fun e => absurd (beq_iff_eq.mp e).symm eb.ne
  | cons z r ih =>
    intro e
    rcases refsB_cases e with ⟨c, r', q, h⟩ | q
    · obtain ⟨rfl, rfl⟩ := List.cons.inj q
      rw [List.contains_cons, ih h]
      rfl
    · rw [q]
section
open Builtin Builtin.ObjectAttr
variable {prog : Program} {w : World} {A : Around} {R : Result → Shared → Prop} {hp : Heap} {g : Array GenState} {d : Drawn} {t : Nat} {os : OsState}
/-- the first field of an exception -/
theorem osaB {eb : EB} {K : W.Frag} {fl : Str} {tk : Tok} {u : Value} {z C : Addr} {fv : Array Value} {cd : ClassData}
    (kin : K.In hp) (oz : hp.get? z = some { cls := .ref C, data := .fields fv }) (hcd : W.clsIn K C = some cd) (hm : refsB eb cd.mro = true) (hh : cd.hasDict = true) (no : W.findIn K (.ref C) fl = some none)
    (fin : ∀ h' tk' dx, (∀ b o, b ≠ z → hp.get? b = some o → h'.get? b = some o) → hp.objs.size ≤ dx → dx ≠ z → h'.get? z = some { cls := .ref C, dict := some dx, data := .fields fv } →
      h'.Ns1 dx (fun y => if y = fl then some u else none) → R (.ok (.ret .none)) ⟨h', g, d, tk', os⟩) :
    codeAny (model prog w) A (.call (.builtin "object.__setattr__") ⟨[.ref z, .str fl tk, u], []⟩) R ⟨hp, g, d, t, os⟩ := by
  have J : W.InstAt hp z { cls := .ref C, data := .fields fv } C none := ⟨oz, rfl, rfl, trivial⟩
  have SF := F.store_object
  have hz : z ≠ hp.objs.size := Nat.ne_of_lt (Heap.lt_size oz)
  have isO : cd.mro.contains (.type "object") = true := (refsB_has eb "object" _ hm).trans eb.obj
  have below : W.Looks (model prog w) hp (isInstance (.ref z) (.type "object")) true := J.type.andThen (W.looks_mroIn kin (by
    unfold W.mroIn
    rw [hcd, Option.bind_some, if_neg (by rw [refsB_ne hm]; decide), isO]))
  refine codeAny_call_builtin SF.slot.plain SF.entry (@W.check_slot (model prog w) _ _ ⟨hp, g, d, t, os⟩ "object.__setattr__" "object" "__setattr__" (.ref z) [.str fl tk, u] [] _ SF.kind SF.split below (SF.args (.ref z) (.str fl tk) u) ?_)
  have rowOf : W.Looks (model prog w) hp (mroOf (.ref C)) cd.mro := (W.looks_clsIn kin hcd).andThen .now
  have noTaker : W.Looks (model prog w) hp (storeTaker? none) none := .now
  have clsAt : W.Looks (model prog w) hp (classData C) cd := W.looks_clsIn kin hcd
  rw [W.osa_eq, refuse_eq]
  refine wpAny_bind (wpAny_bind (J.type.at (wpAny_bind (rowOf.at ?_))))
  rw [refsB_pass eb _ _ hm]
  refine wpAny_pure (wpAny_bind (J.type.at (wpAny_bind ((W.looks_findIn kin no).at (wpAny_bind (noTaker.at ?_))))))
  show wpAny _ _ (storeInOwnDict (.ref z) (.ref C) (.str fl tk) fl u false) _ _ _
  obtain ⟨nm, bs, mro, ns, qn, hd, sn, sb, ab, col, del⟩ := cd
  dsimp only at hh
  subst hh
  unfold storeInOwnDict ownDictForStores
  repeat (first | with_reducible refine store_in_new ?_ ?_ | with_reducible refine wpAny_loadPart_at oz ?_ | with_reducible refine clsAt.at ?_ | wp_step)
  · exact ⟨_, #[], _, (Heap.get?_update_ne _ _ _ _ hz.symm).trans (Heap.get?_push_at rfl rfl), rfl, fun e he => absurd he (by simp), fun _ => rfl⟩
  · intro h' tk' n1 sb
    have oz' : (hp.push { cls := .type "dict", data := .dict #[] }).get? z = some { cls := .ref C, data := .fields fv } := Heap.get?_push_of_some _ oz
    refine fin h' tk' hp.objs.size (fun b o hb ho => ?_) (Nat.le_refl _) hz.symm ?_ n1
    · exact (sb.2 b (Nat.ne_of_lt (Heap.lt_size ho))).trans ((Heap.get?_update_ne _ _ _ _ hb).trans (Heap.get?_push_of_some _ ho))
    · exact (sb.2 z hz).trans (Heap.get?_update_self _ oz' rfl)
end
end DD
namespace DD
open PySem PySem.Spec PyProof.Rows L2
/-- what the written part says of the class -/
structure OexG (K : PySem.W.Frag) (C : Addr) : Prop where
  cls : ∃ eb nm q N bs bm sn sub ab col dd k0 k1 k2 k3 k5, K.lookup C = some (excClassObj nm q C N bs bm true sn sub ab col dd k0 k1 k2 k3 k5 (EB.nw eb)) ∧ refsB eb bm = true
  sa : PySem.W.findIn K (.ref C) "__setattr__" = some (some (.builtin "object.__setattr__"))
  exC : PySem.W.subIn K (.ref C) (.type "BaseException") = some true
  tyC : PySem.W.typeIn K (.ref C) = some (.type "type")
  kC : PySem.W.keepIn K (.ref C) = true
section
variable {X : Cx} {pins : List (Addr × Obj)} {σ : L2.St} {H : Hp} {s : Shared} {z C : Addr} {fl : Str} {y : V} {u : Value} {E : Value → Shared → Prop} {A : Around}
theorem ost_newG {Q : Unit → Shared → Prop} (T : OexG X.K C) (I : Inv X pins σ H s) (ez : H z = some (exo z C none)) (no : PySem.W.findIn X.K (.ref C) fl = some none) (ry : RelV y u)
    (fin : ∀ dx s', H dx = none → dx ≠ z → Inv X pins σ (upd (upd H dx (exd dx [(fl, y)])) z (exo z C (some dx))) s' → Q () s') : wpAny (model X.prog X.w) A (setAttr (.ref z) fl u) Q E s := by
  obtain ⟨eb, nm, q, N, bs, bm, sn, sub, ab, col, dd, k0, k1, k2, k3, k5, hC, hbm⟩ := T.cls
  have clsE : PySem.W.clsIn X.K C = some { name := nm, bases := bs, mro := .ref C :: bm, ns := N, qualname := q, hasDict := true, slotNames := sn, subclasses := sub, abstract := ab, collection := col, hasDel := false } := by
    unfold PySem.W.clsIn
    rw [hC] <;> rfl
  obtain ⟨t1, oz⟩ := exo_at I.hok ez
  obtain ⟨hp, g, d, t, os⟩ := s
  refine PySem.W.set_plain I.kIn (ox := { cls := .ref C, dict := none, data := .fields #[.ref t1, .none, .none, .none, .bool false, .none] }) (od := none) ⟨oz, rfl, rfl, trivial⟩ T.sa ?_
  refine osaB (eb := eb) I.kIn oz clsE (show refsB eb (.ref C :: bm) = true from hbm) rfl no (fun h' tk' dx kp dn dne hx hn => ?_)
  have nD : H dx = none := I.hok.fresh dn
  have offD : ∀ {b : Addr} {o : Obj}, hp.get? b = some o → b ≠ dx := fun {b o} q => Nat.ne_of_lt (Nat.lt_of_lt_of_le (Heap.lt_size q) dn)
  have offZ : ∀ {b : Addr}, H b = none → b ≠ z := fun {b} n w => by
    rw [w, ez] at n
    cases n
  have U : Un X.fs [] H (upd (upd H dx (exd dx [(fl, y)])) z (exo z C (some dx))) hp h' := by
    constructor
    · exact fun b o q n _ _ => kp b o (offZ n) q
    · exact fun b o q n _ _ => ⟨o.slots, kp b o (offZ n) q⟩
    · exact fun b o q n _ => by rw [upd_ne (offZ n), upd_ne (offD q)]; exact n
    · exact fun b o q _ => by
        by_cases hb : b = z
        · exact ⟨_, by rw [hb]; exact hx⟩
        · exact ⟨o, kp b o hb q⟩
    · exact fun b xs q => by rw [upd_ne (at_ne ez q exo_tup), upd_ne (ne_of_none q nD)]; exact q
    · exact fun b o v q => by rw [upd_ne (at_ne ez q exo_frz), upd_ne (ne_of_none q nD)]; exact q
    · exact fun b ps q => ⟨#[], by rw [upd_ne (at_ne ez q exo_tbl), upd_ne (ne_of_none q nD), q]; simp⟩
  refine fin dx _ nD dne (I.un (t' := tk') U fun b o q => ?_)
  by_cases hb : b = z
  · subst hb
    rw [upd_same] at q
    cases q
    exact exo_ok hx
  · rw [upd_ne hb] at q
    by_cases hd : b = dx
    · subst hd
      rw [upd_same] at q
      cases q
      exact exd_ok hn (relO_put (fs := []) ry fun g => True.intro)
    · rw [upd_ne hd] at q
      refine (I.hok b o q).stay (fun c v hc w => kp c v ?_ w) (fun c hc => ?_) (fun c xs hc => ?_)
      · rcases hc with hc | hc
        · rw [hc]
          exact hb
        · exact at_ne ez hc exo_own
      · rw [upd_ne (at_ne ez hc exo_own), upd_ne (ne_of_none hc nD)]
        exact hc
      · rw [upd_ne (at_ne ez hc exo_tup), upd_ne (ne_of_none hc nD)]
        exact hc
end
/-- self.f = e, the first one -/
def tOstG (K : PySem.W.Frag) (fl : Str) (to te : TE) : TS := fun D σ H => te σ H fun y H1 => to σ H1 fun x H2 => ∃ z C : Addr, x = .ref z ∧ OexG K C ∧ PySem.W.findIn K (.ref C) fl = some none ∧ H2 z = some (exo z C none) ∧
  ∀ dx, H2 dx = none → dx ≠ z → D.nx σ (upd (upd H2 dx (exd dx [(fl, y)])) z (exo z C (some dx)))
section
variable {X : Cx} {o e : Expr} {es : List Expr} {to te : TE} {ta : TA} {fl : Str} {p p' pos : Pos}
theorem ps_ostG (ho : PE X o to) (he : PE X e te) (hs : swapsWith e (some (.Attribute o fl p')) pos.line X.env = pure false := by rfl) : PS X (.Assign [.Attribute o fl p'] e pos) (tOstG X.K fl to te) := by
  refine ⟨fun pins s σ H D I h => ?_⟩
  refine plainObj_wpAny_Assign_Attribute (thn (he.run pins s σ H _ I h) fun v s1 ⟨y, H1, I1, r1, q1⟩ => thn (ho.run pins s1 σ H1 _ I1 q1) fun u s2 ⟨x, H2, I2, r2, z, C, ex, T, no, ez, q⟩ => ?_) hs
  subst ex
  obtain rfl : u = Value.ref z := r2
  exact ost_newG T I2 ez no r1 fun dx s' n ne J => ⟨σ, _, J, q dx n ne⟩
theorem pmk_oexG {CX : CXT} {x : Str} {C fI : Addr} {k : Nat} {fd : FuncData} {ps : List Str} {sp : Sp} (T : OexG X.K C) (iC : PySem.W.findIn X.K (.ref C) "__init__" = some (some (.ref fI))) (tI : PySem.W.typeIn X.K (.ref fI) = some (.type "function"))
    (fn : FnOk X.prog X.w X.K X.mg X.base CX k fI fd ps sp) (hr : Room (k + 1) X.A) (hb : Binds X.K fd ps []) (pss : Passes CX X (fun _ _ _ => False)) (hg : Gl X x) (hm : X.mg x = some (.ref C)) (args : PA X (e :: es) ta)
    (hdb : (x == ("__debug__" : Str)) = false := by decide) (he : starEach (e :: es) X.env = (false, eval e X.env) :: starEach es X.env := by rfl) (hpl : (backTo pos (starEach es X.env)).any (·.1) = false := by rfl) :
    PMk X (.Call (.Name x p) (e :: es) [] pos) (tMkO C sp [] ta) := by
  intro pins s σ H Q I h
  obtain ⟨eb, nm, q, N, bs, bm, sn, sub, ab, col, dd, k0, k1, k2, k3, k5, hC, hbm⟩ := T.cls
  obtain ⟨ii, base⟩ := eb.facts
  refine wpAny_Call_Name_kw (ld_glob I hg hm ?_ hdb)
  refine PySem.W.callWith_K (h₀ := X.base) I.ok.mod.kin T.kC (thn (args.run pos pins s σ H _ I h) fun us s1 ⟨vs, H1, I1, r1, few, q1⟩ => ⟨I1.kIn, ?_⟩) he hpl
  show wpAny _ _ (call (.ref C) us) _ _ _
  obtain ⟨hp, g, dr, tk, os⟩ := s1
  generalize hz : hp.objs.size + 1 = z at *
  have le : hp.objs.size ≤ z := by omega
  have nZ : H1 z = none := I1.hok.fresh le
  have q2 := q1 z nZ
  rw [List.append_nil] at q2
  have grow : ∀ b o, hp.get? b = some o → ((hp.push (PySem.W.kdv_tup us)).push (PySem.HandSPX.excO C hp.objs.size)).get? b = some o := fun b o w => Heap.get?_push_of_some _ (Heap.get?_push_of_some _ w)
  have oz : ((hp.push (PySem.W.kdv_tup us)).push (PySem.HandSPX.excO C hp.objs.size)).get? z = some (PySem.HandSPX.excO C hp.objs.size) := by
    rw [← hz]
    heap_get
  have J : Inv X pins σ (upd H1 z (exo z C none)) ⟨(hp.push (PySem.W.kdv_tup us)).push (PySem.HandSPX.excO C hp.objs.size), g, dr, tk, os⟩ :=
    I1.laid (t' := tk) (a := z) (o := exo z C none) (h' := (hp.push (PySem.W.kdv_tup us)).push (PySem.HandSPX.excO C hp.objs.size)) grow le (exo_ok oz)
  have r2 : Vals (V.ref z :: vs) (Value.ref z :: us) := .cons rfl r1
  have lens : (Value.ref z :: us).length = ps.length := by
    rw [← r2.length, fn.len _ _ _ _ q2]
  have short : us.length ≤ sizeLine := by
    rw [← Paired.length r1, sizeLine_eq]
    omega
  have bd := hb ⟨(hp.push (PySem.W.kdv_tup us)).push (PySem.HandSPX.excO C hp.objs.size), g, dr, tk, os⟩ (Value.ref z :: us) J.kIn (by rw [List.append_nil]; exact lens)
  rw [List.append_nil] at bd
  have run := fn.run _ X.stack _ _ ⟨Value.ref z :: us, []⟩ (Value.ref z :: us) _ _ (fun _ _ _ => False) (hr.make C us []) (J.env0.make C us []) bd r2 q2
  refine wpAny_call (PySem.HandSPX.call_own base (fun Y => refsB_has eb Y bm hbm) (I1.kIn _ _ hC) (PySem.W.looks_findIn I1.kIn iC) (fun self => PySem.W.bind_fn I1.kIn self tI) short ?_)
  rw [hz]
  refine codeAny_mono run fun r s' w => ?_
  cases r with
  | error er => exact pss pins σ _ _ er s' J w
  | ok flw =>
    cases flw with
    | ret v =>
      obtain ⟨v', H2, os2, bare2, un2, hok2, rv, ev, d, fs, ea, ed, hd1, q3⟩ := w
      subst ev
      obtain ⟨h2, g2, d2, t2, os'⟩ := s'
      exact ⟨rv, mk_end (raises_own T.exC T.tyC) I1 le grow un2 hok2 os2 bare2 ea ed hd1 q3⟩
    | next => exact False.elim w
    | brk => exact False.elim w
    | cont => exact False.elim w
end
end DD
set_option maxHeartbeats 1000000
namespace DD
open PySem PySem.Spec PyProof.Rows L2
/-- C's own __init__(self, f): self.f = f -/
def spX (C : Addr) (f : Str) : Sp := fun vs H Q _ => ∃ a y, vs = [.ref a, y] ∧ H a = some (exo a C none) ∧ ∀ dx, H dx = none → dx ≠ a → Q .non (upd (upd H dx (exd dx [(f, y)])) a (exo a C (some dx)))
structure ExF (P : Program) (w : World) (K : PySem.W.Frag) (mg : Str → Option Value) (base : Heap) (C f : Str) : Prop where
  oex : OexG K (cadr K C)
  no : PySem.W.findIn K (.ref (cadr K C)) f = some none
  init : ∃ fI fd ps, PySem.W.findIn K (.ref (cadr K C)) "__init__" = some (some (.ref fI)) ∧ PySem.W.typeIn K (.ref fI) = some (.type "function") ∧ FnOk P w K mg base (L2.CX P w) 1 fI fd ps (spX (cadr K C) f) ∧ Binds K fd ps []
section
variable {P : Program} {w : World} {K : PySem.W.Frag} {mg : Str → Option Value} {base : Heap}
theorem init1_ok {x qual p0 p1 f : Str} {params : Arguments} {scope : Scope} {fI : Addr} {fd : FuncData} {C : Addr} {N : List Str} {q0 q1 q2 q3 : Pos} (F : FunD K x qual params [.Assign [.Attribute (.Name p0 q0) f q1] (.Name p1 q2) q3] scope [] [] fI fd) (S : FnScope N [p0, p1] scope)
    (T : OexG K C) (hno : PySem.W.findIn K (.ref C) f = some none) (h0 : N[0]? = some p0) (h1 : N[1]? = some p1) (v0 : Vis scope p0) (v1 : Vis scope p1) (d0 : (p0 == ("__debug__" : Str)) = false := by decide) (d1 : (p1 == ("__debug__" : Str)) = false := by decide) (c0 : (p0 == ("__classdict__" : Str)) = false := by decide) (c1 : (p1 == ("__classdict__" : Str)) = false := by decide)
    (hs : ∀ (env : PySem.Env) , swapsWith (.Name p1 q2) (some (.Attribute (.Name p0 q0) f q1)) q3.line env = pure false) : FnOk P w K mg base (L2.CX P w) 1 fI fd [p0, p1] (spX C f) := by
  obtain ⟨oc, od, dV, kV, doc, pm, an, cdv, ct, osl, rfl, lk, hcd, _, _⟩ := F.ex
  refine fn_of (k := 0) lk hcd S (fun vs H Q E ⟨a, y, e, _⟩ => by rw [e]; rfl) fun A outer s H vs Q E hr hsp => ?_
  obtain ⟨a, y, rfl, ha, hq⟩ := hsp
  refine ⟨_, pss_one (ps_ostG (to := tVar 0) (te := tVar 1) (pe_var (i := 0) h0 v0 d0 c0) (pe_var (i := 1) h1 v1 d1 c1) (hs _)), ?_⟩
  exact ⟨y, rfl, .ref a, rfl, a, C, rfl, T, hno, ha, fun dx n ne => hq dx n ne⟩
end
section
variable {X : Cx} {W : WX} {fx : List Nat} {pos pos' p p2 np : Pos} {C f : Str}
def mRaise1 (C f : Str) (m : MA) : MS := fun env => (m env).on fun ds e => .exc ⟨C, [f], ds⟩ e
theorem xd_same {H : Hp} {a dx C : Addr} {f : Str} {y : V} (ha : H a = none) (hd : H dx = none) (ne : dx ≠ a) : upd (L2.del (upd (upd (upd H a (exo a C none)) dx (exd dx [(f, y)])) a (exo a C (some dx))) a) dx (.xd [(f, y)]) = upd H dx (.xd [(f, y)]) := by
  funext b
  by_cases q : b = dx
  · subst q
    rw [upd_same, upd_same]
  · rw [upd_ne q, upd_ne q]
    by_cases q2 : b = a
    · subst q2
      rw [L2.del_same, ha]
    · rw [L2.del_ne q2, upd_ne q2, upd_ne q, upd_ne q2]
theorem pds_raise1 {e : Expr} {ta : TA} {me : MD} (G : ExF X.prog X.w X.K X.mg X.base C f) (gC : X.mg C = some (.ref (cadr X.K C))) (hr : Roam 2 X.A) (hc : X.calm = true) (tk : Takes X W) (hg : Gl X C) (ha : PDA X W [e] ta (mCons me mNil))
    (hdb : (C == ("__debug__" : Str)) = false := by decide) (he : starEach [e] X.env = (false, eval e X.env) :: starEach [] X.env := by rfl) (hpl : (backTo p2 (starEach [] X.env)).any (·.1) = false := by rfl) :
    PDS X W fx (.Raise (some (.Call (.Name C p) [e] [] p2)) none pos) (fun _ σ H => tMkO (cadr X.K C) (spX (cadr X.K C) f) [] ta σ H fun cls d H' => W cls d σ H') (mRaise1 C f (mCons me mNil)) := by
  obtain ⟨fI, fd, ps, i1, i2, F1, hb⟩ := G.init
  refine ⟨ps_raise hc tk (pmk_oexG G.oex i1 i2 F1 hr.room hb (passes_call tk fun _ _ _ _ z => z.elim) hg gC ha.pa hdb he hpl), fun F H σ env fp D' R h => ?_⟩
  · unfold mRaise1 at h
    have hn := argN_cons (a := me) argN_nil
    refine ha.sn F H σ env fp _ ex_emp R ?_
    cases hm : mCons me mNil env with
    | fail => rw [hm] at h; exact h
    | exc x e =>
      rw [hm] at h
      exact fun F' H' fp' c dd P R' ea => h F' H' σ fp' c dd P Fx.refl R' ea
    | ok ds e =>
      rw [hm] at h
      have hl := hn _ _ _ hm
      intro F1 H1 fp1 vs P1 R1 d1
      match ds, hl with
      | [d], _ =>
        obtain ⟨y, ys, rfl, dy, rfl⟩ := d1
        refine ⟨Nat.le_of_ble_eq_true rfl, fun a na => ⟨a, y, rfl, upd_same, fun dx hdx ne => ⟨rfl, dx, [(f, y)], upd_same, ?_, ?_, ?_⟩⟩⟩
        · rw [upd_ne ne, upd_same]
        · rw [upd_ne ne] at hdx
          exact hdx
        · rw [upd_ne ne] at hdx
          rw [xd_same na hdx ne]
          have g := Gr.new (o := .xd [(f, y)]) R1.ex hdx
          exact h _ _ σ fp1 _ _ (P1.trans g.po) Fx.refl (R1.grow g) ⟨rfl, .inr ⟨dx, [y], rfl, upd_same, rfl, ⟨y, [], rfl, Den.mono g.f d y dy, rfl⟩⟩⟩
end
section
variable {K : PySem.W.Frag} {W : WX} {σ0 : L2.St} {F0 : Hp}
/-- a field of the caught exception -/
def xfD (x : Exn) (f : Str) : MD := fun env => ofO ((x.ns.zip x.ds).lookup f) env
theorem zip_den {F : Hp} {f : Str} {d : D} : ∀ {ns : List Str} {ds : List D} {vs : List V}, ns.length = vs.length → Dens K F ds vs → (ns.zip ds).lookup f = some d → ∃ v, (ns.zip vs).lookup f = some v ∧ Den K F d v
  | [], _, _, _, _, h => by simp at h
  | n :: ns, [], _, _, _, h => by simp at h
  | n :: ns, d0 :: ds, vs, hl, hd, h => by
    obtain ⟨v, vr, rfl, dv, dr⟩ := hd
    rw [List.zip_cons_cons, List.lookup_cons] at h ⊢
    by_cases q : f == n
    · rw [q] at h ⊢
      cases h
      exact ⟨v, rfl, dv⟩
    · rw [show (f == n) = false from by simpa using q] at h ⊢
      exact zip_den (by simpa using hl) dr h
theorem SnA.xf {a : Addr} {cls : Value} {d : Option Addr} {i : Nat} {f : Str} {x : Exn} (hx : ExAt K F0 x cls d) (hi : σ0[i]? = some (some (.ref a))) : SnA σ0 K W (Den K) F0 (tXf a cls d (cadr K x.cls) f (tVar i)) (xfD x f) := by
  intro F H env fp Q e0 R h
  obtain ⟨c, e, k⟩ := out_ofO R h
  obtain ⟨hc, hx2⟩ := hx
  rcases hx2 with ⟨n0, _, _⟩ | ⟨dd, vs, hd, hF, hl, hv⟩
  · rw [n0] at e
    cases e
  · obtain ⟨v, hv1, hv2⟩ := zip_den hl hv e
    refine ⟨.ref a, hi, rfl, hc, dd, _, v, hd, R.ex.at_ _ _ (e0 _ _ hF) rfl, hv1, ?_⟩
    exact k F H v (Gr.refl R.ex) (Den.mono e0 c v hv2)
theorem rel_set {F H : Hp} {σ : L2.St} {env : DEnv} {fp : List Addr} {i : Nat} {x : Option V} (R : Rel K F H σ env fp) (h : env[i]? = some none) : Rel K F H (σ.set i x) env fp := by
  refine ⟨R.ex, ?_, R.nd, R.out⟩
  have key : ∀ {σ : L2.St} {env : DEnv} {fp : List Addr} (i : Nat), EnvAt K F H σ env fp → env[i]? = some none → EnvAt K F H (σ.set i x) env fp := by
    intro σ
    induction σ with
    | nil =>
      intro env fp i e h
      cases env with
      | nil => cases h
      | cons _ _ => exact e.elim
    | cons v σ ih =>
      intro env fp i e h
      cases env with
      | nil => exact e.elim
      | cons o env =>
        cases i with
        | zero =>
          cases h
          exact e
        | succ i =>
          cases o with
          | none => exact ih (env := env) (fp := fp) i e h
          | some o =>
            obtain ⟨y, f1, f2, r, s, h1, t⟩ := e
            exact ⟨y, f1, f2, r, s, h1, ih i t h⟩
  exact key i R.at_ h
end
def freeAt (e : DEnv) (i : Nat) : Bool := match e[i]? with
  | some none => true
  | _ => false
theorem freeAt_ok {e : DEnv} {i : Nat} (h : freeAt e i = true) : e[i]? = some none := by
  unfold freeAt at h
  split at h
  · rename_i q
    exact q
  · cases h
end DD
namespace DD
open PySem PySem.Spec PyProof.Rows L2 HotX L2H
end DD
namespace DD
open PySem PySem.Spec PyProof.Rows L2
section
variable {X : Cx} {W : WX} {fx : List Nat} {i : Nat} {C : Str} {a : Addr} {cls : Value} {d : Option Addr} {pos pos' np rp : Pos} {n f : Str}
theorem px_of {e : Expr} {te : TE} {m : MD} (h : PD X WF e te m) : PXA X i C a cls d e te (fun _ => m) := ⟨h.pe, fun _ _ _ _ _ _ => h.sn.atA⟩
theorem px_xf {oe : Obj} {pn : List (Addr × Obj)} (T : XfC X.K (cadr X.K C)) (hno : PySem.W.findIn X.K (.ref (cadr X.K C)) f = some none) (hz : Zc cls d oe) (hf : ∃ vs, oe.data = .fields vs) (hv : PE (X.suite a ((a, oe) :: pn)) (.Name n np) (tVar i))
    (hb : attributeBase (.Name n np) f X.env (eval (.Name n np) X.env) = eval (.Name n np) X.env := by rfl) : PXA (X.suite a ((a, oe) :: pn)) i C a cls d (.Attribute (.Name n np) f pos) (tXf a cls d (cadr X.K C) f (tVar i)) (fun x => xfD x f) :=
  ⟨pe_xf T hno hz hf hv hb, fun x F0 σ0 hx hc hi => by
    subst hc
    exact SnA.xf hx hi⟩
theorem tab_only {tab : List (Str × Bool)} {C y : Str} (h : (tab.all fun p => !p.2 || decide (p.1 = C)) = true) (q : tab.lookup y = some true) : y = C := by
  induction tab with
  | nil => cases q
  | cons p t ih =>
    obtain ⟨k, b⟩ := p
    rw [List.all_cons, Bool.and_eq_true] at h
    by_cases z : y = k
    · subst z
      rw [List.lookup_cons_self] at q
      cases q
      simpa using h.1
    · rw [List.lookup_cons, show (y == k) = false from by rw [beq_eq_false_iff_ne]; exact z] at q
      exact ih h.2 q
end
theorem u64S {X : Cx} {k : Nat} {a : Addr} {pn : List (Addr × Obj)} (hr : Roam k X.A) : (X.suite a pn).A.units + 64 < cLine := by
  have := hr.room.un
  show X.A.units + 64 < _
  omega
theorem oexIn_ok {K : PySem.W.Frag} {C : Addr} (q : oexIn K C = true) : ∃ eb nm q N bs bm sn sub ab col dd k0 k1 k2 k3 k5, K.lookup C = some (excClassObj nm q C N bs bm true sn sub ab col dd k0 k1 k2 k3 k5 (EB.nw eb)) ∧ refsB eb bm = true := by
  unfold oexIn at q
  split at q
  · rename_i dd cd sl ho
    split at q
    · rename_i C' bm k0 k1 k2 k3 n k5 hm hs
      rw [Bool.and_eq_true, Bool.and_eq_true, Bool.and_eq_true, List.any_eq_true] at q
      obtain ⟨⟨⟨q1, hdel⟩, hdi⟩, eb, _, q2⟩ := q
      rw [Bool.and_eq_true] at q2
      obtain ⟨hn, hr⟩ := q2
      obtain rfl := beq_iff_eq.mp q1
      obtain rfl := beq_iff_eq.mp hn
      rw [Bool.not_eq_true'] at hdel
      obtain ⟨nm, bs, mro, ns, qn, hd, sn, sub, ab, col, del⟩ := cd
      dsimp only at hm hdel hdi
      subst hm hdel hdi
      have hsl : sl = #[k0, k1, k2, k3, some (.builtin (EB.nw eb)), k5] := by
        obtain ⟨l⟩ := sl
        simp only at hs
        rw [hs]
      subst hsl
      exact ⟨eb, nm, qn, ns, bs, bm, sn, sub, ab, col, dd, k0, k1, k2, k3, k5, ho, hr⟩
    · cases q
  · cases q
structure OexF (K : PySem.W.Frag) (C f : Str) : Prop where
  oex : OexG K (cadr K C)
  no : PySem.W.findIn K (.ref (cadr K C)) f = some none
  i : PySem.W.findIn K (.ref (cadr K C)) "__init__" = some (some (.ref (maL C "__init__" K)))
  t : PySem.W.typeIn K (.ref (maL C "__init__" K)) = some (.type "function")
  xf : XfC K (cadr K C)
theorem oexfB_ok {K : PySem.W.Frag} {C f : Str} (h : oexfB C f K = true) : OexF K C f := by
  unfold oexfB at h
  simp only [Bool.and_eq_true, decide_eq_true_iff] at h
  obtain ⟨h1, h2, h3, h4, h5, h6, h7, h8, h9⟩ := h
  exact ⟨⟨oexIn_ok h1, h2, h3, h4, h5⟩, h6, h7, h8, xfB_ok h9⟩
theorem exf_ok {P : Program} {w : World} {K : PySem.W.Frag} {mg : Str → Option Value} {base : Heap} {C f x qual p0 p1 : Str} {params : Arguments} {scope : Scope} {fd : FuncData} {N : List Str} {q0 q1 q2 q3 : Pos} (T : OexF K C f)
    (F : FunD K x qual params [.Assign [.Attribute (.Name p0 q0) f q1] (.Name p1 q2) q3] scope [] [] (maL C "__init__" K) fd) (S : FnScope N [p0, p1] scope) (hb : Binds K fd [p0, p1] [])
    (h0 : N[0]? = some p0) (h1 : N[1]? = some p1) (v0 : Vis scope p0) (v1 : Vis scope p1) (d0 : (p0 == ("__debug__" : Str)) = false) (d1 : (p1 == ("__debug__" : Str)) = false) (c0 : (p0 == ("__classdict__" : Str)) = false) (c1 : (p1 == ("__classdict__" : Str)) = false)
    (hs : ∀ (env : PySem.Env) , swapsWith (.Name p1 q2) (some (.Attribute (.Name p0 q0) f q1)) q3.line env = pure false) : ExF P w K mg base C f :=
  ⟨T.oex, T.no, _, fd, _, T.i, T.t, init1_ok F S T.oex T.no h0 h1 v0 v1 d0 d1 c0 c1 hs, hb⟩
end DD
set_option maxHeartbeats 2000000
namespace DD
open PySem PySem.Spec PyProof.Rows L2
def wClauses (K : PySem.W.Frag) (Wout : WX) (D : Ends) : List Cl → WX
  | [] => Wout
  | (c, i, ts) :: r => fun cls d σ H => ∃ b, PySem.W.exmOne K cls c = some b ∧
      (b = true → ∀ a, H a = none → ts a cls d { nx := fun σ' H' => D.nx (σ'.set i none) H', rt := D.rt, bk := fun σ' H' => D.bk (σ'.set i none) H', ct := fun σ' H' => D.ct (σ'.set i none) H' } (σ.set i (some (.ref a))) H) ∧ (b = false → wClauses K Wout D r cls d σ H)
section
variable {X : Cx} {body : List Stmt} {h₀ : ExceptHandler} {hds : List ExceptHandler} {l : List Cl} {pos : Pos} {tb : WX → TS} {Wout : WX}
theorem ps_try_clauses (hs : X.stack = X.env :: X.outer) (hf : X.env.frame = some X.env.locals) (hN : X.N.Nodup) (tk : Takes X Wout)
    (hb : ∀ (W : WX) (pn : List (Addr × Obj)) (xe : Value → Shared → Prop), Takes (X.tr pn xe) W → PassesOwn (model X.prog X.w) X.A X.env xe → PSs (X.tr pn xe) body (tb W))
    (hh : ClsOk X (h₀ :: hds) l) : PS X (.Try body (h₀ :: hds) [] [] pos) (fun D σ H => tb (wClauses X.K Wout D l) D σ H) := by
  refine ⟨fun pins s σ H D I h => ?_⟩
  have ok := I.ok
  have hfr : X.A.frames = some (X.env :: X.outer) := by rw [ok.frames, hs]
  refine wpAny_Try_except ?_
  refine wpAny_mono ((hb (wClauses X.K Wout D l) (X.pn ++ pins) (fun e s₁ => wpAny (model X.prog X.w) X.A (noteFrame e X.env) (fun _ s₂ => wpAny (model X.prog X.w) X.A (setFlight e none) (fun _ s₃ =>
    wpAny (model X.prog X.w) X.A (handleBy e X.env (h₀ :: hds)) (SP X pins D) X.xe s₃) X.xe s₂) X.xe s₁) (fun u s' xx => ?_) PassesOwn.looking).run [] s σ H D (I.toTry _) h) (fun f s1 hsp => ?_) (fun e s1 he => he)
  · obtain ⟨a, B, sI, pins', σ', H', cls, d, rfl, J', nb, up, sky, na, os, ag, w⟩ := xx
    have J : Inv X pins σ' H' sI := J'.ofTry ok
    have sky' : Sky B (X.env :: X.outer) a (Zc cls d) X.env.locals s'.heap := by rw [← hs]; exact sky
    show wpAny (model X.prog X.w) X.A (noteFrame (.ref a) X.env) _ _ _
    refine Sky.land Zc.steady hfr hf sky' fun h3 fl3 up3 => ?_
    have J3 : Inv X pins σ' H' { s' with heap := h3 } := J.landed nb fl3.1 (up.trans up3) os ag
    obtain ⟨oe3, vs3, he3, hz3, hd3⟩ := fl3.there
    have nfr : a ∉ frs (X.env :: X.outer) := fun hm => by
      obtain ⟨_, o', e', hnf⟩ := fl3.2.2.1.mem hm
      rw [he3] at e'
      cases e'
      exact hnf _ hd3
    have nL : a ≠ X.env.locals := fun z => nfr (List.mem_filterMap.mpr ⟨X.env, List.mem_cons_self, by rw [hf, z]⟩)
    have nF : a ∉ X.fs := fun hm => by
      obtain ⟨e, he, q⟩ := List.mem_filterMap.mp hm
      exact nfr (List.mem_filterMap.mpr ⟨e, List.mem_cons_of_mem _ he, q⟩)
    have S3 := J3.suite he3 hd3 na nL nF
    have go : ∀ {hds' : List ExceptHandler} {l' : List Cl}, ClsOk X hds' l' → wClauses X.K Wout D l' cls d σ' H' →
        wpAny (model X.prog X.w) X.A (handleBy (.ref a) X.env hds') (SP X pins D) X.xe { s' with heap := h3 } := by
      intro hds' l' hk
      induction hk with
      | nil =>
        intro w
        refine wpAny_handleBy_nil ?_
        obtain ⟨k1, k2, k3, oe, vs, T, oT, ts', he, hz, hd, h1, hr⟩ := id fl3
        unfold PySem.passOn
        refine wpAny_bind (wpAny_field he hd h1 ?_)
        rw [if_neg (show ¬ ((Value.ref T == Value.none) = true) from by simp)]
        have fin : wpAny (model X.prog X.w) X.A (setFlight (.ref a) X.env.frame) (fun _ s4 => wpAny (model X.prog X.w) X.A (throw (.ref a) : Sem Flow) (SP X pins D) X.xe s4) X.xe { s' with heap := h3 } := by
          rw [hf]
          refine HandSPX.setFlight_upZ fl3 fun h4 hh4 up4 => wpAny_throw (tk _ _ ?_)
          exact ⟨a, B, sI, pins, σ', H', cls, d, rfl, J, nb, (up.trans up3).trans up4, .inr (.inr (by rw [hs]; exact hh4)), na, os, ag, w⟩
        first
          | exact wpAny_bind (wpAny_pure (wpAny_bind fin))
          | exact wpAny_bind fin
      | @cons x n c i ts b₀ suite np pos' hds2 l2 hc hi hln hsu r ih =>
        intro w
        obtain ⟨b, hb1, hyes, hno⟩ := w
        have hloc : Loc X.env.scope n := .inl hln
        refine wpAny_handleBy_cons (codeAny_handlers_test ?_) (by intro q; cases q)
        have LT : PySem.W.Looks (model X.prog X.w) h3 (typeOf (.ref a)) cls := fun A Q E s k q => wpAny_typeOf_ref (k _ _ he3) (by rw [hz3.1]; exact q)
        have LM := PySem.W.exm_one (M := model X.prog X.w) (J3.kIn) LT hb1
        have test : ∀ {Q : Value → Shared → Prop} {E : Value → Shared → Prop}, Q c { s' with heap := h3 } → wpAny (model X.prog X.w) (X.A.mark (some (.ref a))) (eval (.Name x np) X.env) Q E { s' with heap := h3 } := fun {Q E} q => by
          obtain ⟨hg, hdbg, hm | ⟨hm, hv, hnn⟩⟩ := hc
          · exact ld_glob (X := X.suite a ((a, oe3) :: (X.pn ++ pins))) S3 hg hm q hdbg
          · exact ld_blt (X := X.suite a ((a, oe3) :: (X.pn ++ pins))) S3 hg hm hv q hnn hdbg
        refine test (LM.here ?_)
        cases b with
        | true =>
          refine codeAny_handlers_suite_as ?_
          refine HandSPX.lands_againZ fl3 fun h4 fl4 up4 => ?_
          have J4 : Inv X pins σ' H' { s' with heap := h4 } := J.landed nb fl4.1 ((up.trans up3).trans up4) os ag
          obtain ⟨oe4, vs4, he4, hz4, hd4⟩ := fl4.there
          have S4 := J4.suite he4 hd4 na nL nF
          refine store_ok (X := X.suite a ((a, oe4) :: (X.pn ++ pins))) (v := .ref a) S4 hN hi hloc rfl (fun s5 S5 => ?_) (.inr hln)
          refine wpAny_mono ((hsu a oe4 cls d (X.pn ++ pins) hz4 ⟨_, hd4⟩).run [] s5 _ H' _ S5 (hyes rfl a na)) (fun f s6 hsp => ?_) (fun _ _ z => False.elim z)
          have end_ : ∀ {σ6 : L2.St} {H6 : Hp} {Q : Shared → Prop}, Inv (X.suite a ((a, oe4) :: (X.pn ++ pins))) [] σ6 H6 s6 → (∀ s7, Inv X pins (σ6.set i none) H6 s7 → Q s7) →
              wpAny (model X.prog X.w) X.A (do bindName X.env n .none; unbindBehindTheSuite X.env n pos') (fun _ s7 => Q s7) X.xe s6 := fun {σ6 H6 Q} S6 hq => gone_ok (S6.unsuite ok) hN hi hln hq
          cases f with
          | next =>
            obtain ⟨σ6, H6, S6, q6⟩ := hsp
            exact end_ S6 fun s7 J7 => ⟨_, _, J7, q6⟩
          | brk =>
            obtain ⟨σ6, H6, S6, q6⟩ := hsp
            exact end_ S6 fun s7 J7 => ⟨_, _, J7, q6⟩
          | cont =>
            obtain ⟨σ6, H6, S6, q6⟩ := hsp
            exact end_ S6 fun s7 J7 => ⟨_, _, J7, q6⟩
          | ret u =>
            obtain ⟨v6, σ6, H6, S6, r6, q6⟩ := hsp
            exact end_ S6 fun s7 J7 => ⟨_, _, _, J7, r6, q6⟩
        | false =>
          show wpAny _ X.A (handleBy (.ref a) X.env hds2) _ _ _
          exact ih (hno rfl)
    exact go hh w
  · cases f with
    | next =>
      obtain ⟨σ', H', J', q⟩ := hsp
      exact wpAny_execs_nil ⟨σ', H', J'.ofTry ok, q⟩
    | brk =>
      obtain ⟨σ', H', J', q⟩ := hsp
      exact ⟨σ', H', J'.ofTry ok, q⟩
    | cont =>
      obtain ⟨σ', H', J', q⟩ := hsp
      exact ⟨σ', H', J'.ofTry ok, q⟩
    | ret u =>
      obtain ⟨v, σ', H', J', r, q⟩ := hsp
      exact ⟨v, σ', H', J'.ofTry ok, r, q⟩
end
def handX (e : DEnv) (x : Exn) : List ClM → RS
  | [] => .exc x e
  | (_, i, tab, suite) :: r => match tab.lookup x.cls with
    | some true => if freeAt e i = true then (match suite x e with
      | .ok d e' => .rt d e'
      | _ => .fail) else .fail
    | some false => handX e x r
    | none => .fail
section
variable {X : Cx} {W : WX} {fx : List Nat} {hds : List ExceptHandler} {ms : List ClM} {l : List Cl} {pos : Pos}
theorem ClsX.sn {F H : Hp} {σ : L2.St} {fp : List Addr} {D' : Ends} {x : Exn} {ee : DEnv} {F' H' : Hp} {σ' : L2.St} {fp' : List Addr} {c : Value} {dd : Option Addr} (h : ClsX X fx hds ms l) (P : Po F H fp F' H' fp') (z : Fx fx σ σ') (R' : Rel X.K F' H' σ' ee fp') (ea : ExAt X.K F' x c dd)
    (o : OutS X.K W fx F H σ fp D' (handX ee x ms)) : wClauses X.K W D' l c dd σ' H' := by
  induction h with
  | nil => exact o F' H' σ' fp' c dd P z R' ea
  | @cons C n i tab suite te e np rp pos' hds ms l hg hdb gC hi hln ht hto hfx hsu r ih =>
    obtain ⟨e1, _⟩ := id ea
    unfold handX at o
    cases q : tab.lookup x.cls with
    | none => rw [q] at o; exact o.elim
    | some bb =>
      have em := ht.at_ q
      rw [q] at o
      refine ⟨bb, by rw [e1]; exact em, fun hb a na => ?_, fun hb => ?_⟩
      · subst hb
        have o : OutS X.K W fx F H σ fp D' (if freeAt ee i = true then (match suite x ee with
          | .ok d e' => .rt d e'
          | _ => .fail) else .fail) := o
        by_cases hi3 : freeAt ee i = true
        · rw [if_pos hi3] at o
          have hi2 := freeAt_ok hi3
          have R2 : Rel X.K F' H' (σ'.set i (some (.ref a))) ee fp' := rel_set R' hi2
          have hil : i < σ'.length := by
            rw [R'.at_.length]
            exact (List.getElem?_eq_some_iff.mp hi2).1
          refine (hsu a { cls := c, dict := dd, data := .fields #[] } c dd [] ⟨rfl, rfl⟩ ⟨_, rfl⟩).sn x F' (σ'.set i (some (.ref a))) ea (tab_only hto q) (by rw [List.getElem?_set_self hil]) F' H' ee fp' _ (Ex.refl _) R2 ?_
          generalize suite x ee = rr at o
          cases rr with
          | fail => exact o.elim
          | exc x e => exact o.elim
          | ok d e' => exact fun F2 H2 fp2 v P2 R3 dv => o F2 H2 _ fp2 v (P.trans P2) (z.trans (Fx.set hfx)) R3 dv
        · rw [if_neg hi3] at o
          exact o.elim
      · subst hb
        exact ih o
end
/-- lists in a suite -/
structure PXL (X : Cx) (i : Nat) (C : Str) (a : Addr) (cls : Value) (d : Option Addr) (es : List Expr) (t : TA) (s : Exn → MA) : Prop where
  pa : PA X es t
  sn : ∀ (x : Exn) (F0 : Hp) (σ0 : L2.St), ExAt X.K F0 x cls d → x.cls = C → σ0[i]? = some (some (.ref a)) → SnA σ0 X.K WF (Dens X.K) F0 t (s x)
section
variable {X : Cx} {i : Nat} {C : Str} {a : Addr} {cls : Value} {d : Option Addr} {pos : Pos} {e : Expr} {es : List Expr} {te : TE} {t : TA} {s : Exn → MD} {ss : Exn → MA}
theorem pxl_nil : PXL X i C a cls d [] tNil (fun _ => mNil) := ⟨pa_nil, fun _ _ _ _ _ _ => SnA.nil⟩
theorem pxl_cons (h : PXA X i C a cls d e te s) (hr : PXL X i C a cls d es t ss) (hs : starEach (e :: es) X.env = (false, eval e X.env) :: starEach es X.env := by rfl) : PXL X i C a cls d (e :: es) (tCons te t) (fun x => mCons (s x) (ss x)) :=
  ⟨pa_cons h.pe hr.pa hs, fun x F0 σ0 hx hc hi => SnA.cons (h.sn x F0 σ0 hx hc hi) (hr.sn x F0 σ0 hx hc hi)⟩
theorem px_lst (h : PXL X i C a cls d es t ss) : PXA X i C a cls d (.List es pos) (tLst t) (fun x => mLst (ss x)) := ⟨pe_lst h.pa, fun x F0 σ0 hx hc hi => SnA.lst (h.sn x F0 σ0 hx hc hi)⟩
end
end DD
set_option maxHeartbeats 3200000
namespace DD
open PySem PySem.Spec PyProof.Rows L2
end DD
set_option maxHeartbeats 1000000
namespace DD
open PySem PySem.Spec PyProof.Rows L2
end DD
namespace DD
open PySem PySem.Spec PyProof.Rows L2
end DD
set_option maxHeartbeats 4000000
namespace DD
open PySem PySem.Spec PyProof.Rows L2
def repTD : D → D → Option D
  | .tup ds, .int k => if 2 ≤ k ∧ k ≤ 1000 ∧ ds.length ≤ 1000 then some (.tup (List.replicate k.toNat ds).flatten) else none
  | _, _ => none
theorem tuple_mul0 (l : Addr) (items : Array Value) (n : Nat) (dd : Option Addr) (sl : Array (Option Value)) (x : Int) (u : Tok) (c0 : (decide (x < -(2 ^ 63)) || decide (x ≥ 2 ^ 63)) = false) (c1 : items.isEmpty = true) :
    Meets (Builtin.«tuple.__mul__» ⟨[.ref l, .int x u], []⟩) (fun _ R s => s.heap.get? l = some { cls := .type "tuple", dict := dd, data := .seq items n, slots := sl } ∧ R (.ok (.ret (Value.ref l))) s) :=
  .of_wp fun prog w A R s h => by
    obtain ⟨hp, g, d, tk, os⟩ := s
    obtain ⟨hl, h⟩ := h
    have f1 := AutoSeq1.idx_int
    have c1' : (items.isEmpty || x == 1) = true := by rw [c1]; rfl
    wp_walk using wpAny_loadPart' hl, wpAny_load hl
    repeat (first
      | (refine wpAny_ite_false (decide_eq_false (by rw [c0]; exact Bool.false_ne_true)) ?_; wp_walk using wpAny_loadPart' hl, wpAny_load hl)
      | (refine wpAny_ite_true (decide_eq_true c1') ?_; wp_walk using wpAny_loadPart' hl, wpAny_load hl))
    exact ⟨_, rfl, h⟩
def rRepTD (K : PySem.W.Frag) : R2 := fun x y H Q => ∃ l k xs, x = .ref l ∧ y = .int k ∧ SqT K H l xs ∧ 2 ≤ k ∧ k ≤ 1000 ∧ xs.length ≤ 1000 ∧ (xs = [] → Q (.ref l) H) ∧ (xs ≠ [] → ∀ p o, H p = none → o.dict = none → Q (.ref p) (upd H p (.frz o (.tup (List.replicate k.toNat xs).flatten))))
theorem op_repTD {X : Cx} : OpR X (binaryOp .Mult) (rRepTD X.K) := by
  intro pins s σ H x y v u Q I rx ry h
  obtain ⟨l, k, xs, rfl, rfl, hT, h1, h2, hz, q0, q⟩ := h
  cases rx
  obtain ⟨t, rfl⟩ := ry
  obtain ⟨its, r, ⟨⟨cls, dd, data, sl⟩, ho, hc, n, hd⟩, hs⟩ := I.tuple hT
  simp only at hc hd
  subst hc hd
  have hle : its.length = xs.length := r.length.symm
  have c0 : (decide (k < -(2 ^ 63)) || decide (k ≥ 2 ^ 63)) = false := by
    rw [decide_eq_false (by omega), decide_eq_false (by omega)] <;> rfl
  by_cases hne : xs = []
  · subst hne
    have hn : its = [] := List.eq_nil_of_length_eq_zero hle
    subst hn
    exact wpAny_binaryOp_repeat_ref (T := "tuple") (U := "int") (by decide) ⟨_, ho, rfl⟩ (fun s' => typeIs_int s' k t) noFill_tuple_mul F.fills_int_mul F.slot_int_rmul repeat_tuple F.slot_int_index.lookup
      (call_meets F.slot_int_rmul (typeIs_int s k t) F.entry_int_rmul (F.args_int_rmul_2 _ _) (int_rmul_tuple k t l [].toArray n dd sl)
        ⟨ho, rfl, ⟨_, ho, rfl⟩, call_meets F.slot_tuple_mul ⟨_, ho, rfl⟩ F.entry_tuple_mul (F.args_tuple_mul_2 _ _) (tuple_mul0 l [].toArray n dd sl k t c0 rfl) ⟨ho, .ref l, H, I, (rfl : Value.ref l = Value.ref l), q0 rfl⟩⟩)
  have hn : its ≠ [] := fun e => hne (by
    rw [e] at hle
    exact List.eq_nil_of_length_eq_zero hle.symm)
  have hi : its.toArray.isEmpty = false := by
    cases its with
    | nil => exact absurd rfl hn
    | cons a b => rfl
  have hsz0 : its.toArray.size = xs.length := by rw [List.size_toArray, hle]
  have hm : ((its.toArray.size : Nat) : Int) * k ≤ 1000000 := by
    rw [hsz0]
    have a1 : ((xs.length : Nat) : Int) * k ≤ 1000 * k := Int.mul_le_mul_of_nonneg_right (by omega) (by omega)
    omega
  have flen : (List.replicate k.toNat its).flatten.length ≤ sizeLine := by
    rw [PyProof.Rows.lm_len_rep_flat, hle, sizeLine_eq]
    have a1 : k.toNat * xs.length ≤ 1000 * 1000 := Nat.mul_le_mul (by omega) hz
    omega
  have c1 : (its.toArray.isEmpty || k == 1) = false := by
    rw [hi, Bool.false_or]
    exact beq_eq_false_iff_ne.mpr (by omega)
  have c2 : (decide (k ≤ 0) || its.toArray.isEmpty) = false := by
    rw [hi, Bool.or_false]
    exact decide_eq_false (by omega)
  have c4 : Builtin.Tuple.tupleTooMany (((its.toArray.size : Nat) : Int) * k) = false := by
    unfold Builtin.Tuple.tupleTooMany
    rw [sizeLine_eq]
    exact decide_eq_false (by omega)
  refine wpAny_binaryOp_repeat_ref (T := "tuple") (U := "int") (by decide) ⟨_, ho, rfl⟩ (fun s' => typeIs_int s' k t) noFill_tuple_mul F.fills_int_mul F.slot_int_rmul repeat_tuple F.slot_int_index.lookup
    (call_meets F.slot_int_rmul (typeIs_int s k t) F.entry_int_rmul (F.args_int_rmul_2 _ _) (int_rmul_tuple k t l its.toArray n dd sl)
      ⟨ho, rfl, ⟨_, ho, rfl⟩, call_meets F.slot_tuple_mul ⟨_, ho, rfl⟩ F.entry_tuple_mul (F.args_tuple_mul_2 _ _) (tuple_mulW l its.toArray n dd sl k t c0 c1 c2 (by omega) c4 (by rw [size_rep, List.size_toArray]; exact flen)) ⟨ho, ?_⟩⟩)
  rw [size_rep]
  have hx := Heap.get?_push_size s.heap (o := { cls := .type "tuple", data := .seq (List.replicate k.toNat its).flatten.toArray }) rfl
  have J := I.laid (t' := s.toks) (o := .frz { cls := .type "tuple", data := .seq (List.replicate k.toNat its).flatten.toArray } (.tup (List.replicate k.toNat xs).flatten)) (fun b u e => Heap.get?_push_of_some _ e) (Nat.le_refl _) ⟨hx, by rw [PyProof.Rows.lm_len_rep_flat, ← hle, ← PyProof.Rows.lm_len_rep_flat]; exact flen, (List.replicate k.toNat its).flatten, r.rep k.toNat, ⟨_, hx, rfl, _, rfl⟩⟩
  exact ⟨.ref _, _, J, rfl, q hne _ _ (I.hok.fresh (Nat.le_refl _)) rfl⟩
theorem opd_repTD {K : PySem.W.Frag} : OpD K (rRepTD K) repTD := by
  intro F H x y a b z e hx hy hz Q k
  cases x <;> first | (cases hz; done) | skip
  cases y <;> first | (cases hz; done) | skip
  rename_i ds i
  have hz' : (if 2 ≤ i ∧ i ≤ 1000 ∧ ds.length ≤ 1000 then some (D.tup (List.replicate i.toNat ds).flatten) else none) = some z := hz
  by_cases h : 2 ≤ i ∧ i ≤ 1000 ∧ ds.length ≤ 1000
  · rw [if_pos h] at hz'
    cases hz'
    obtain ⟨p, o1, vs, rfl, h1, d1, h2⟩ := hx
    have hb : b = .int i := hy
    have l1 := Dens.length h2
    refine ⟨p, i, vs, rfl, hb, .inl (.inr ⟨o1, e.at_ _ _ h1 rfl⟩), h.1, h.2.1, by rw [← l1]; exact h.2.2, fun z => ?_, fun _ r o hr ho => ?_⟩
    · subst z
      have e0 : ds = [] := List.eq_nil_of_length_eq_zero l1
      subst e0
      rw [show (List.replicate i.toNat ([] : List D)).flatten = [] by simp] at k
      exact k F H _ (Gr.refl e) ⟨p, o1, [], rfl, h1, d1, h2⟩
    · obtain ⟨g, d⟩ := gr_tup e hr ho (dens_rep h2 i.toNat)
      exact k _ _ _ g d
  · rw [if_neg h] at hz'
    cases hz'
end DD
set_option maxHeartbeats 200000
namespace DD
open PySem PySem.Spec PyProof.Rows L2
end DD
set_option maxHeartbeats 2000000
namespace DD
open PySem PySem.Spec PyProof.Rows L2
end DD
set_option maxHeartbeats 1000000
namespace DD
open PySem PySem.Spec PyProof.Rows L2
end DD
namespace DD
open PySem PySem.Spec PyProof.Rows L2
section
variable {K : PySem.W.Frag} {W : WX} {σ0 : L2.St} {F0 : Hp}
theorem SnA.cb {t : TA} {m : MA} {r : List V → Hp → VK → Prop} {f : List D → Option D} (ha : SnA σ0 K W (Dens K) F0 t m) (hf : CallD K r f) : SnA σ0 K W (Den K) F0 (tCB r t) (mCB f m) := by
  intro F H env fp Q e0 R h
  refine ha.go e0 R h fun F1 H1 fp1 env1 x v P1 R1 d1 h1 => ?_
  obtain ⟨c, e, k⟩ := out_ofO R1 h1
  exact hf F1 H1 x v c R1.ex d1 e Q k
end
section
variable {X : Cx} {i : Nat} {C : Str} {a : Addr} {cls : Value} {d : Option Addr} {pos : Pos} {e : Expr} {te : TE} {s : Exn → MD}
theorem px_callB {id : String} {x : Str} {p : Pos} {r : List V → Hp → VK → Prop} {f : List D → Option D} (hc : CallR X (.builtin id) r) (hf : CallD X.K r f) (hg : Gl X x) (hm : X.mg x = none) (hv : bootBuiltins x = some (.builtin id)) (h : PXA X i C a cls d e te s)
    (he : starEach [e] X.env = (false, eval e X.env) :: starEach [] X.env := by rfl) (hn : x ≠ "__name__" := by decide) (hdb : (x == ("__debug__" : Str)) = false := by decide) (hpl : (backTo pos (starEach [] X.env)).any (·.1) = false := by rfl) :
    PXA X i C a cls d (.Call (.Name x p) [e] [] pos) (tCB r (tCons te tNil)) (fun y => mCB f (mCons (s y) mNil)) :=
  ⟨pe_callB hc hg hm hv (pa_cons h.pe pa_nil he) hn hdb he hpl, fun y F0 σ0 hx hcl hi => SnA.cb (SnA.cons (h.sn y F0 σ0 hx hcl hi) SnA.nil) hf⟩
end
section
variable {X : Cx} {k : Nat} {a : Addr} {pn : List (Addr × Obj)}
theorem guardS (hr : Roam k X.A) : (X.suite a pn).A.guards = some [] := hr.gd
end
end DD
namespace DD
open PySem PySem.Spec PyProof.Rows L2
end DD
namespace DD
open PySem PySem.Spec PyProof.Rows L2
def reprED : List D → Option D
  | [.dct [] []] => some (.str "{}")
  | ds => reprD ds
def rReprE (K : PySem.W.Frag) : List V → Hp → VK → Prop := fun xs H Q => rRepr K xs H Q ∨ ∃ a o, xs = [.ref a] ∧ H a = some (.frz o (.dK [])) ∧ Q (.str "{}") H
theorem call_reprE {X : Cx} (hgd : X.A.guards = some []) (hu : X.A.units + 64 < cLine) : CallR X (.builtin "repr") (rReprE X.K) := by
  intro pins s σ H xs us Q I r h
  rcases h with h | ⟨a, o, rfl, ha, q⟩
  · exact call_reprD hgd hu pins s σ H xs us Q I r h
  · obtain ⟨u, rfl, rx⟩ := vals1 r
    cases (show u = Value.ref a from rx)
    obtain ⟨hs0, ho, hx, es, ep, vs, hdt, hsz, kv, hat⟩ := I.frzK ha
    have hes : es = #[] := Array.eq_empty_of_size_eq_zero hsz
    subst hes
    have rd : Reads s.heap (.ref a) (.dict []) (a :: [] ++ []) := Reads.dict (kvs := []) (as := []) (bs := []) ho hx.1 hdt ReadsAll.nil ReadsAll.nil
    exact repr_of_reads' rd rfl (fun _ z => by
      rw [List.append_nil] at z
      rw [← List.mem_singleton.mp z] at hs0
      simp at hs0) hgd (by show X.A.units + (PyData.depth (.dict []) + 1) < cLine; have : PyData.depth (.dict []) = 1 := by decide +kernel
                           omega) (fun _ _ e => e) (fun h' t tk kp => ⟨.str "{}", H, I.kept (t' := tk) kp, ⟨t, by
        have : (PyData.dict []).shown = ("{}" : Str) := by kernel_rfl
        rw [this]⟩, q⟩) (by decide +kernel)
theorem cd_reprE {K : PySem.W.Frag} : CallD K (rReprE K) reprED := by
  intro F H xs as z e hx hz Q k
  match xs, hz with
  | [.dct [] []], hz =>
    cases hz
    obtain ⟨v, rfl, h2⟩ := one_den hx
    obtain ⟨a, o, vs, rfl, h3, h4, h5⟩ := h2
    exact .inr ⟨a, o, rfl, e.at_ _ _ h3 rfl, gr_val (z := .str "{}") e rfl k⟩
  | [.dct (_ :: _) _], hz => exact .inl (cd_repr F H _ as z e hx hz Q k)
  | [.dct [] (_ :: _)], hz => exact .inl (cd_repr F H _ as z e hx hz Q k)
  | [.non], hz => exact .inl (cd_repr F H _ as z e hx hz Q k)
  | [.bl _], hz => exact .inl (cd_repr F H _ as z e hx hz Q k)
  | [.int _], hz => exact .inl (cd_repr F H _ as z e hx hz Q k)
  | [.str _], hz => exact .inl (cd_repr F H _ as z e hx hz Q k)
  | [.tup _], hz => exact .inl (cd_repr F H _ as z e hx hz Q k)
  | [.lst _], hz => exact .inl (cd_repr F H _ as z e hx hz Q k)
  | [.wtp _], hz => exact .inl (cd_repr F H _ as z e hx hz Q k)
  | [.dtt _ _], hz => exact .inl (cd_repr F H _ as z e hx hz Q k)
  | [.ins _ _ _], hz => exact .inl (cd_repr F H _ as z e hx hz Q k)
  | [.scr _], hz => exact .inl (cd_repr F H _ as z e hx hz Q k)
  | [], hz => exact .inl (cd_repr F H _ as z e hx hz Q k)
  | _ :: _ :: _, hz => exact .inl (cd_repr F H _ as z e hx (by simpa [reprED] using hz) Q k)
end DD
set_option maxHeartbeats 200000
namespace DD
open PySem PySem.Spec PyProof.Rows L2
end DD
set_option maxHeartbeats 2000000
namespace DD
open PySem PySem.Spec PyProof.Rows L2 LamX
section
variable {X : Cx} {pins : List (Addr × Obj)} {σ : L2.St} {H HZ : Hp} {s s1 : Shared}
/-- x(), told at the caller's slots -/
theorem pe_actS {CXg : CXT} {Eg : XK} {Ng : List Str} {qg : Str} {sg : Scope} {g f c' : Addr} {cdg pm ctv : Value} {params : Arguments} {body : Expr} {scope : Scope} {k i : Nat} {a : Str} {pn : List (Addr × Obj)} {xe : Value → Shared → Prop} {W : WX} {tb : XK → TE} {p1 p2 : Pos}
    (I : Inv X pins σ H s) (L : LamS X.env.scope scope) (hf : s.heap.get? f = some (PySem.W.kla_obj "<lambda>" (X.env.qual ++ "<lambda>") params body scope (cloFrom X.env.cells scope.names []) pm c' ctv)) (hfn : H f = none) (hfr : f ∉ frs X.stack)
    (hbind : bindArgs (PySem.W.kla_fn "<lambda>" (X.env.qual ++ "<lambda>") params body scope (cloFrom X.env.cells scope.names []) pm (.ref c') ctv) ⟨[], []⟩ = pure [])
    (tk : Takes ((cxOf CXg X.prog X.w X.K X.mg X.base Ng qg sg g cdg X.A X.stack s H Eg).tr pn xe) W) (hr : Roam (k + 1) (X.A.deeper (envOfC qg sg s.heap.objs.size g cdg)))
    (hbody : ∀ (A : Around) (outer : List PySem.Env) (s : Shared) (H : Hp) (E : XK), Roam k (A.deeper (lamEnv X scope s.heap.objs.size f c')) → PE (lamCx X A outer s H E scope f c') body (tb E))
    (hN : Ng[i]? = some a) (hv : Vis sg a) (hd : (a == ("__debug__" : Str)) = false := by decide) (hcd : (a == ("__classdict__" : Str)) = false := by decide) :
    PE ((cxOf CXg X.prog X.w X.K X.mg X.base Ng qg sg g cdg X.A X.stack s H Eg).tr pn xe) (.Call (.Name a p1) [] [] p2)
      (fun σZ HZ Q => σZ[i]? = some (some (.ref f)) ∧ HZ c' = some (CodeO c' (X.env.qual ++ "<lambda>")) ∧ tb (WE W σZ) σ HZ Q) := by
  refine ⟨fun pinsZ sZ σZ HZ Q IZ h => ?_⟩
  obtain ⟨hs, hc, ht⟩ := h
  refine wpAny_Call_Name_kw (thn ((pe_var (pos := p1) (i := i) hN hv hd hcd).run pinsZ sZ σZ HZ (fun v H1 => v = .ref f ∧ H1 = HZ) IZ ⟨.ref f, hs, rfl, rfl⟩) fun u s1 ⟨v, H1, I1, r1, q1⟩ => ?_)
  obtain ⟨ev, eH⟩ := q1
  subst ev
  rw [eH] at I1
  obtain rfl : u = Value.ref f := r1
  have of1 : s1.heap.get? f = some (PySem.W.kla_obj "<lambda>" (X.env.qual ++ "<lambda>") params body scope (cloFrom X.env.cells scope.names []) pm c' ctv) := I1.base.keep f _ hf hfn hfr (fun z => nomatch (show f ∈ ([] : List Addr) from z))
  refine PySem.W.callWith_F0 ⟨_, _, _, _, of1⟩ ?_
  have un : Un (frs X.stack) [] H HZ s.heap s1.heap := I1.base
  obtain ⟨⟨oc, vs, t, hoc, hdc, hvc⟩, _, _⟩ := I1.hok c' _ hc
  have rc : codeAny (model X.prog X.w) (X.A.deeper (envOfC qg sg s.heap.objs.size g cdg)) (.call (.ref f) ⟨[], []⟩) (CR (L2.CX X.prog X.w) (envOfC qg sg s.heap.objs.size g cdg :: X.stack) X.prog X.w HZ s1 Q (WE W σZ)) s1 := by
    refine PySem.W.kla_callFunE hr.room.depth of1 rfl L.co L.gen rfl ⟨c', oc, vs, t, rfl, hoc, hdc, hvc⟩ ?_
    rw [hbind]
    refine wpAny_pure (wpAny_newFunctionEnv (fun y hy => (L.own y hy).2) (fun y hy => absurd hy (by simp)) (fun h₁ hns hsb => ⟨I1.nolimit.fresh _ hsb, ?_⟩) L.kind)
    show codeAny _ _ (.expr body (lamEnv X scope s1.heap.objs.size f c')) _ _
    have kp : ∀ b o, s1.heap.get? b = some o → h₁.get? b = some o := fun b o e => hsb.extBut b o (Nat.ne_of_lt (Heap.lt_size e)) (Heap.get?_push_of_some _ e)
    have J : Inv (lamCx X (X.A.deeper (envOfC qg sg s.heap.objs.size g cdg)) (envOfC qg sg s.heap.objs.size g cdg :: X.stack) s1 HZ (WE W σZ) scope f c') [] σ HZ { s1 with heap := h₁, toks := s1.toks + ([] : List (Str × Value)).length } :=
      lam_start2 I L I1.env0 hr.room.hd un hns kp
    refine PySem.W.kla_codeExpr (wpAny_mono ((hbody _ _ s1 HZ _ (hr.deeper _)).run [] _ _ HZ Q J ht) (fun v s' hq => ?_) fun e s' hq => hq)
    obtain ⟨w', H', J', rv, q⟩ := hq
    exact ⟨w', H', J'.os, J'.bare, J'.base, J'.hok, rv, q⟩
  refine wpAny_call (codeAny_mono rc fun r s' hq => ?_)
  cases r with
  | error e => exact passAt tk σZ pinsZ HZ s1 e s' I1 hq
  | ok fl =>
    cases fl with
    | ret u => exact I1.after hq
    | next => exact False.elim hq
    | brk => exact False.elim hq
    | cont => exact False.elim hq
end
/-- the frame of the def behind the call -/
def gE (n i : Nat) (d : D) : DEnv := (List.replicate n none).set i (some (.d d))
/-- what the def makes of it: found by iF, the clauses, the rest -/
def lamR (n : Nat) (iF : Option Nat) (cs : List ClM) (rest : MS) : LO → Option D
  | .ok d => (match rest (match iF with
      | some i => gE n i d
      | none => List.replicate n none) with
    | .rt r _ => some r
    | .nx _ => some .non
    | _ => none)
  | .exc x => (match handX (List.replicate n none) x cs with
    | .rt r _ => some r
    | _ => none)
section
variable {P : Program} {w : World} {K : PySem.W.Frag} {mg : Str → Option Value} {base : Heap} {x : Str} {params : Arguments} {scope : Scope} {f : Addr} {fd : FuncData} {N : List Str} {a : Str} {k : Nat}
theorem rel_g {F H : Hp} (n : Nat) (h : FHK K F H) (v : V) : Rel K F H (some v :: List.replicate n none) (List.replicate (n + 1) none) [] := by
  refine ⟨h.toFH, ?_, List.nodup_nil, fun a ha => by cases ha⟩
  exact envAt_none h.mks n
theorem rel_gE {F H : Hp} {n i : Nat} {d : D} {b : V} (h : FHK K F H) (v : V) (hi : i ≠ 0) (hn : i < n + 1) (hd : Den K F d b) : Rel K F H ((some v :: List.replicate n none).set i (some b)) (gE (n + 1) i d) [] := by
  obtain ⟨fp', R, sub⟩ := (rel_g n h v).set (i := i) hd
  have e : fp' = [] := by
    cases fp' with
    | nil => rfl
    | cons a r => exact nomatch sub a List.mem_cons_self
  rw [e] at R
  exact R
theorem gr_of {F H F' H' : Hp} {fp' : List Addr} (P : Po F H [] F' H' fp') (e : FH F' H') : Gr F H F' H' := ⟨P.f, fun a o h => P.keep a o h (by simp), e, fun a o h1 h2 => P.out a o h1 h2 (by simp)⟩
/-- try: found = act() except ..; rest -/
theorem lamD_asg {iF : Nat} {h₀ : ExceptHandler} {hds : List ExceptHandler} {p1 p2 p3 p4 p5 : Pos} {found : Str} {rest : List Stmt} {mrest : MS} {ms : List ClM} (hg : mg x = some (.ref f))
    (F : FunD K x x params (.Try [.Assign [.Name found p1] (.Call (.Name a p2) [] [] p3) p4] (h₀ :: hds) [] [] p5 :: rest) scope [] [] f fd) (S : FnScope N [a] scope) (hb : Binds K fd [a] [])
    (h0 : N[0]? = some a) (va : Vis scope a) (hND : N.Nodup) (hF : N[iF]? = some found) (vF : Vis scope found) (hiF : iF ≠ 0) (hd : (a == ("__debug__" : Str)) = false := by decide) (hcd : (a == ("__classdict__" : Str)) = false := by decide)
    (hlF : scope.names.lookup found = some .local)
    (hsw : ∀ env : PySem.Env, swapsWith (.Call (.Name a p2) [] [] p3) (some (.Name found p1)) p4.line env = pure false)
    (hcl : ∀ (cdv : Value) (A : Around) (outer : List PySem.Env) (s : Shared) (H : Hp), Roam k (A.deeper (envOfC x scope s.heap.objs.size f cdv)) → ∃ l, ClsX (cxOf C8.CX0 P w K mg base N x scope f cdv A outer s H C8.E0).nox [] (h₀ :: hds) ms l)
    (hrest : ∀ (cdv : Value) (A : Around) (outer : List PySem.Env) (s : Shared) (H : Hp), Roam k (A.deeper (envOfC x scope s.heap.objs.size f cdv)) → ∃ t, PDB (cxOf C8.CX0 P w K mg base N x scope f cdv A outer s H C8.E0).nox WF [] rest t mrest) :
    LamD P w K mg base k x (lamR N.length (some iF) ms mrest) := by
  obtain ⟨oc, od, dV, kV, doc, pm, an, cdv, ct, osl, rfl, lk, hcdv, _, _⟩ := F.ex
  refine ⟨f, params, _, scope, dV, kV, doc, pm, cdv, ct, oc, an, od, osl, N, a, hg, F.kp, lk, hcdv, hb, S, h0, va, hd, hcd, fun A outer fa c' s H q tl hr act hc => ?_⟩
  obtain ⟨l, hX⟩ := hcl cdv A outer s H hr
  obtain ⟨tr, hR⟩ := hrest cdv A outer s H hr
  have hlen : ∃ n, N.length = n + 1 := ⟨N.length - 1, by
    have := (List.getElem?_eq_some_iff.mp h0).1
    omega⟩
  obtain ⟨n, hn⟩ := hlen
  have hlt := (List.getElem?_eq_some_iff.mp hF).1
  refine ⟨_, pss_cons (ps_try_clauses (X := (cxOf C8.CX0 P w K mg base N x scope f cdv A outer s H C8.E0).nox) (Wout := fun _ _ _ _ => False) (l := l)
      (tb := fun W D σZ HZ => (σZ[0]? = some (some (.ref fa)) ∧ HZ c' = some (CodeO c' q) ∧ tl (WE W σZ) HZ fun v H' => D.nx (σZ.set iF (some v)) H'))
      rfl rfl hND L2.takes0 (fun W pn xe tk _ => ?_) hX.ok) hR.ps, ?_⟩
  · exact pss_one (ps_set (i := iF) hND hF (.inl hlF) (act W pn xe p2 p3 tk) (hsw _))
  · intro MA r d' Q m1 m2 htl hR' hQ
    have s0 : L2.start N [V.ref fa] = some (.ref fa) :: List.replicate n none := by
      show [V.ref fa].map some ++ List.replicate (N.length - 1) none = _
      rw [hn]
      rfl
    rw [s0]
    refine ⟨rfl, hc, htl _ _ ?_⟩
    cases r with
    | ok d =>
      intro F' H' b hm hdn
      have hk := m1 F' H' hm
      refine hR.sn F' H' _ _ [] _ (rel_gE (n := n) hk (.ref fa) hiF (by omega) hdn) ?_
      have hR2 : (match mrest (gE N.length iF d) with
        | .rt r _ => some r
        | .nx _ => some .non
        | _ => none) = some d' := hR'
      rw [hn] at hR2
      generalize mrest (gE (n + 1) iF d) = rr at hR2
      cases rr with
      | rt d2 e =>
        cases hR2
        exact fun F2 H2 σ2 fp2 v P2 _ R2 dv => hQ F2 H2 v (m2 F' H' F2 H2 hm (gr_of P2 R2.ex)) dv
      | nx e =>
        cases hR2
        exact fun F2 H2 σ2 fp2 P2 _ R2 => hQ F2 H2 .non (m2 F' H' F2 H2 hm (gr_of P2 R2.ex)) rfl
      | _ => cases hR2
    | exc ex =>
      intro F' H' c dd hm hea
      have hk := m1 F' H' hm
      refine hX.sn (W := WF) (F := F') (H := H') (σ := some (.ref fa) :: List.replicate n none) (fp := []) (ee := List.replicate (n + 1) none) (fp' := []) (x := ex) Po.refl Fx.refl (rel_g n hk (.ref fa)) hea ?_
      have hR2 : (match handX (List.replicate N.length none) ex ms with
        | .rt r _ => some r
        | _ => none) = some d' := hR'
      rw [hn] at hR2
      generalize handX (List.replicate (n + 1) none) ex ms = rr at hR2
      cases rr with
      | rt d2 e =>
        cases hR2
        exact fun F2 H2 σ2 fp2 v P2 _ R2 dv => hQ F2 H2 v (m2 F' H' F2 H2 hm (gr_of P2 R2.ex)) dv
      | _ => cases hR2
end
end DD
namespace DD
open PySem PySem.Spec PyProof.Rows L2 LamX
/-- the tables of the makers are such -/
def TabsB (K : PySem.W.Frag) (mg : Str → Option Value) (base : Heap) : Prop := lamK K = true → ∀ y ∈ makers, ∀ c P, codA K y = some c → tabA K y = some P → TabB base mg c P
/-- the def that y stands for makes lambdas; cdv is its code -/
def MkD (K : PySem.W.Frag) (mg : Str → Option Value) (base : Heap) (cdv : Value) (y : Str) : Prop := ∃ c P, cdv = .ref c ∧ lamK K = true ∧ y ∈ makers ∧ tabA K y = some P ∧ TabB base mg c P
section
variable {X : Cx} {pins : List (Addr × Obj)} {σ : L2.St} {H : Hp} {s : Shared}
/-- the lambda is made: its code object is new, or found in the table -/
theorem lam_make3 {c P : Addr} {ps : Array Value} {params : Arguments} {body : Expr} {scope : Scope} {pos : Pos} {E : Value → Shared → Prop} {Q : Value → Shared → Prop} (I : Inv X pins σ H s) (TB : TabB X.base X.mg c P) (hcode : X.env.code = .ref c)
    (hP : H P = some (.tbl ps)) (ht : TriplesOk ps.toList) (ha : ∀ (pos : Pos) (cv : Value), codeAmong pos ps.toList = some cv → ∃ c, cv = .ref c ∧ H c = some (CodeO c (X.env.qual ++ "<lambda>"))) (hdef : defaultsOf params X.env = ([], [])) (hfree : ∀ y ∈ scope.names, y.2 = .free → ∃ c, X.env.cells.lookup y.1 = some c)
    (h : ∀ (f c' : Addr) (pm ctv : Value) (H1 : Hp) (s' : Shared), Inv X pins σ H1 s' →
      (H1 = H ∨ ∃ p2 : Array Value, H c' = none ∧ H1 = upd (upd H P (.tbl p2)) c' (CodeO c' (X.env.qual ++ "<lambda>")) ∧ TriplesOk p2.toList ∧ ∀ (pos : Pos) (cv : Value), codeAmong pos p2.toList = some cv → codeAmong pos ps.toList = some cv ∨ cv = .ref c') →
      s'.heap.get? f = some (PySem.W.kla_obj "<lambda>" (X.env.qual ++ "<lambda>") params body scope (cloFrom X.env.cells scope.names []) pm c' ctv) → H1 f = none → f ∉ frs X.stack → H1 c' = some (CodeO c' (X.env.qual ++ "<lambda>")) → Q (.ref f) s') :
    wpAny (model X.prog X.w) X.A (eval (.Lambda params body scope pos) X.env) Q E s := by
  refine PySem.W.kla_eval hdef ?_
  have bP : s.heap.BuiltinsAt X.mg P := TB.bm.keeps I.bk
  have hP' : s.heap.get? P = some { cls := .none, data := .fields ps } := I.hok P _ hP
  have nofr : ∀ f, s.heap.objs.size ≤ f → f ∉ frs X.stack := fun f hf z => by
    rcases List.mem_cons.mp (I.stkSub _ z) with e | e
    · have h1 := I.lt
      rw [← e] at h1
      exact Nat.lt_irrefl _ (Nat.lt_of_lt_of_le h1 hf)
    · exact I.nofs hf e
  cases hc : codeAmong pos ps.toList with
  | none =>
    refine PySem.W.kla_makeFunction (mg := X.mg) (c := c) (P := P) (ps := ps) (closure_ok hfree) I.ok.glob (I.mod.glob.keeps I.bk) hcode (TB.code.keeps I.bk) hP' ht hc TB.gP bP fun c' ctv h' tk hx hge hlt hrec htb => ?_
    obtain ⟨c2, oc, vs, t, e2, hoc, hd, hv⟩ := hrec
    cases e2
    have hsz : s.heap.objs.size ≤ h'.objs.size := Nat.le_trans hge (Nat.le_of_lt hlt)
    have nC : H c' = none := I.hok.fresh hge
    have I1 := inv_table (t' := tk) (more := #[rawInt pos.line, rawInt pos.col, .ref c']) (h' := h'.push (PySem.W.kla_obj "<lambda>" (X.env.qual ++ "<lambda>") params body scope (cloFrom X.env.cells scope.names []) ((X.mg "__name__").getD .none) c' ctv)) I hP
      (fun b o hb e => Heap.get?_push_of_some _ (hx b o hb e)) (Heap.get?_push_of_some _ htb) hge ⟨oc, vs, t, Heap.get?_push_of_some _ hoc, hd, hv⟩
    have eL : (ps ++ #[rawInt pos.line, rawInt pos.col, .ref c']).toList = ps.toList ++ [rawInt pos.line, rawInt pos.col, .ref c'] := by simp
    refine h h'.objs.size c' ((X.mg "__name__").getD .none) ctv _ _ I1 (.inr ⟨_, nC, rfl, by rw [eL]; exact PySem.TriplesOk_snoc _ _ _ _ ht, fun p' cv hcv => ?_⟩) (Heap.get?_push_size _ rfl) ?_ (nofr _ hsz) upd_same
    · rw [eL] at hcv
      exact among_app _ ht hcv
    · have n1 : h'.objs.size ≠ c' := Nat.ne_of_gt hlt
      have n2 : h'.objs.size ≠ P := Nat.ne_of_gt (Nat.lt_of_lt_of_le (Heap.lt_size hP') hsz)
      rw [upd_ne n1, upd_ne n2]
      exact I.hok.fresh hsz
  | some cv =>
    obtain ⟨c', e, hco⟩ := ha pos cv hc
    subst e
    refine PySem.W.kla_makeFunctionHit (mg := X.mg) (c := c) (P := P) (ps := ps) (closure_ok hfree) I.ok.glob (I.mod.glob.keeps I.bk) hcode (TB.code.keeps I.bk) hP' ht hc bP fun ctv h' tk hx hsz => ?_
    have I1 : Inv X pins σ H { s with heap := h'.push (PySem.W.kla_obj "<lambda>" (X.env.qual ++ "<lambda>") params body scope (cloFrom X.env.cells scope.names []) ((X.mg "__name__").getD .none) c' ctv), toks := tk } := I.kept fun b o e => Heap.get?_push_of_some _ (hx b o e)
    exact h h'.objs.size c' ((X.mg "__name__").getD .none) ctv H _ I1 (.inl rfl) (Heap.get?_push_size _ rfl) (I.hok.fresh hsz) (nofr _ hsz) hco
end
/-- the ground grows by the code object -/
theorem gr_lam {F H : Hp} {P c' : Addr} {q : Str} {t : Tok} {p2 ps : Array Value} (e : FH F H) (hm : F P = some (.tbl #[.str q t])) (hP : H P = some (.tbl ps)) (ha : ∀ (pos : Pos) (cv : Value), codeAmong pos ps.toList = some cv → ∃ c, cv = .ref c ∧ F c = some (CodeO c q)) (nC : H c' = none) (ht : TriplesOk p2.toList)
    (hc : ∀ (pos : Pos) (cv : Value), codeAmong pos p2.toList = some cv → codeAmong pos ps.toList = some cv ∨ cv = .ref c') : Gr F H (upd F c' (CodeO c' q)) (upd (upd H P (.tbl p2)) c' (CodeO c' q)) := by
  have nF : F c' = none := e.no nC
  have nPc : P ≠ c' := ne_of_none hP nC
  have kp : ∀ a, a ≠ P → a ≠ c' → upd (upd H P (.tbl p2)) c' (CodeO c' q) a = H a := fun a h1 h2 => by rw [upd_ne h2, upd_ne h1]
  have atP : upd (upd H P (.tbl p2)) c' (CodeO c' q) P = some (.tbl p2) := by rw [upd_ne nPc, upd_same]
  refine ⟨Ex.new nF, fun a o h => ?_, ⟨⟨fun a o h n => ?_⟩, fun a pt h => ?_⟩, fun a o h1 h2 => ?_⟩
  · have h2 : a ≠ c' := ne_of_none h nC
    by_cases h1 : a = P
    · subst h1
      rw [hP] at h
      cases h
      exact .inr ⟨rfl, _, atP⟩
    · rw [kp a h1 h2]
      exact .inl h
  · by_cases h2 : a = c'
    · subst h2
      rw [upd_same] at h ⊢
      exact h
    · rw [upd_ne h2] at h
      have h1 : a ≠ P := fun z => by
        rw [z, hm] at h
        cases h
        cases n
      rw [kp a h1 h2]
      exact e.at_ a o h n
  · have h2 : a ≠ c' := fun z => by
      subst z
      rw [upd_same] at h
      have h' : CodeO a q = .tbl pt := Option.some.inj h
      exact codeO_ne pt h'
    rw [upd_ne h2] at h
    obtain ⟨q2, t2, q3, pt', q4, q5, q6⟩ := e.tb a pt h
    by_cases h1 : a = P
    · subst h1
      rw [hm] at h
      cases h
      have eq : q = q2 := by
        have := congrArg Array.toList q3
        exact (by simpa using this : q = q2 ∧ t = t2).1
      subst eq
      refine ⟨q, t, rfl, p2, atP, ht, fun pos cv hcv => ?_⟩
      rcases hc pos cv hcv with z | z
      · obtain ⟨c, e1, e2⟩ := ha pos cv z
        exact ⟨c, e1, by rw [upd_ne (ne_of_none e2 nF)]; exact e2⟩
      · exact ⟨c', z, upd_same⟩
    · refine ⟨q2, t2, q3, pt', by rw [kp a h1 h2]; exact q4, q5, fun pos cv hcv => ?_⟩
      obtain ⟨c, e1, e2⟩ := q6 pos cv hcv
      exact ⟨c, e1, by rw [upd_ne (ne_of_none e2 nF)]; exact e2⟩
  · rw [upd_ne (ne_of_none h2.e nC)]
    exact h1
def mLam (R : LO → Option D) (mb : MD) : MD := fun env => match mb env with
  | .ok d e => (match R (.ok d) with
    | some r => .ok r e
    | none => .fail)
  | .exc x e => (match R (.exc x) with
    | some r => .ok r e
    | none => .fail)
  | .fail => .fail
def tOut (K : PySem.W.Frag) (W : WX) (m : MD) : TE := fun σ H Q => ∃ (F : Hp) (env : DEnv) (fp : List Addr), Rel K F H σ env fp ∧ Out K W (Den K) F H σ fp Q (m env)
theorem sn_out {K : PySem.W.Frag} {W : WX} {m : MD} : Sn K W (Den K) emp (tOut K W m) m := fun F H σ env fp Q _ R o => ⟨F, env, fp, R, o⟩
section
variable {X : Cx} {W : WX}
theorem pd_lamcall {x y : Str} {R : LO → Option D} {k : Nat} {params : Arguments} {body : Expr} {scope : Scope} {tb : XK → TE} {mb : MD} {p lpos pos : Pos} (G : LamD X.prog X.w X.K X.mg X.base (k + 1) x R) (M : MkD X.K X.mg X.base X.env.code y) (hr : Roam (k + 2) X.A) (hg : Gl X x) (hq : X.env.qual ++ "<lambda>" = lamQ y) (L : LamS X.env.scope scope) (hdef : defaultsOf params X.env = ([], []))
    (hbind : ∀ (q : Str) (cl : List (Str × Addr)) (pm cv ctv : Value), bindArgs (PySem.W.kla_fn "<lambda>" q params body scope cl pm cv ctv) ⟨[], []⟩ = pure [])
    (hbody : ∀ (A : Around) (outer : List PySem.Env) (s : Shared) (H : Hp) (E : XK) (f c' : Addr), Roam k (A.deeper (lamEnv X scope s.heap.objs.size f c')) → Takes (lamCx X A outer s H E scope f c') (fun cls d _ H' => E cls d H') →
      PD (lamCx X A outer s H E scope f c') (fun cls d _ H' => E cls d H') body (tb E) mb)
    (hdb : (x == ("__debug__" : Str)) = false := by decide) : PD X W (.Call (.Name x p) [.Lambda params body scope lpos] [] pos) (tOut X.K W (mLam R mb)) (mLam R mb) := by
  refine ⟨⟨fun pins s σ H Q I h => ?_⟩, sn_out⟩
  obtain ⟨F, env, fp, Rl, o⟩ := h
  obtain ⟨c, P, hcode, hl, hy, hP, TB⟩ := M
  obtain ⟨t, hm⟩ := Rl.at_.mk hl y hy P hP
  obtain ⟨q', t', eq, ps, hHP, htr, hco⟩ := Rl.ex.tb P _ hm
  have eq2 : lamQ y = q' := by
    have := congrArg Array.toList eq
    exact (by simpa using this : lamQ y = q' ∧ t = t').1
  rw [← eq2, ← hq] at hco
  rw [← hq] at hm
  obtain ⟨g, pg, bg, sg, dV, kV, doc, pm, cdv, ct, oc, an, od, osl, Ng, a, gm, gk, glk, gcd, gb, gS, gN, gv, gd, gcc, gbody⟩ := G.ex
  refine wpAny_Call_Name_kw (ld_glob I hg gm ?_ hdb)
  refine PySem.W.callWith_K (h₀ := X.base) I.ok.mod.kin gk ?_ (by rfl) (by rfl)
  show wpAny _ _ (spliced ((false, eval (.Lambda params body scope lpos) X.env) :: backTo pos (starEach [] X.env))) _ _ s
  refine Calls.spliced_cons (lam_make3 I TB hcode hHP htr (fun pos cv hcv => by
    obtain ⟨c0, e1, e2⟩ := hco pos cv hcv
    exact ⟨c0, e1, Rl.ex.at_ _ _ e2 rfl⟩) hdef (L.has I.ok) fun f c' pm' ctv H1 s' I1 dis hf hfn hfr hcH => ?_)
  refine Calls.spliced_nil ⟨I1.kIn, ?_⟩
  -- the ground behind the making
  obtain ⟨F1, g1⟩ : ∃ F1, Gr F H F1 H1 := by
    rcases dis with e | ⟨p2, nC, e, ht2, hc2⟩
    · rw [e]
      exact ⟨F, Gr.refl Rl.ex⟩
    · rw [e]
      exact ⟨_, gr_lam Rl.ex hm hHP hco nC ht2 hc2⟩
  have R1 := Rl.grow g1
  have rc : codeAny (model X.prog X.w) X.A (.call (.ref g) ⟨[.ref f], []⟩) (CR C8.CX0 X.stack X.prog X.w H1 s' Q C8.E0) s' := by
    refine run_ofS (N := Ng) (ps := [a]) (us := [.ref f]) (vs := [.ref f]) glk gcd gS (hr.room) I1.env0 (gb s' [.ref f] I1.kIn rfl) (.cons rfl .nil) rfl fun _ => ?_
    have hr2 : Roam (k + 1) (X.A.deeper (envOfC x sg s'.heap.objs.size g cdv)) := hr.deeper _
    obtain ⟨t', ht', hsem⟩ := gbody X.A X.stack f c' s' H1 (X.env.qual ++ "<lambda>") (fun E H' Q' => tb E σ H' Q') hr2 (fun W pn xe p1 p2 tk => pe_actS (i := 0) (k := k) I1 L hf hfn hfr (hbind _ _ _ _ _) tk hr2 (fun A outer s H E hr3 => (hbody A outer s H E f c' hr3 (takes_of rfl rfl rfl rfl)).pe) gN gv gd gcc) hcH
    refine ⟨t', ht'.nox, ?_⟩
    -- the lambda's body at the maker's frame
    have hr3 : Roam k ((X.A.deeper (envOfC x sg s'.heap.objs.size g cdv)).deeper (lamEnv X scope s'.heap.objs.size f c')) := hr2.deeper _
    have sn : ∀ E : XK, Sn X.K (fun cls d _ H' => E cls d H') (Den X.K) emp (tb E) mb := fun E => (hbody (X.A.deeper (envOfC x sg s'.heap.objs.size g cdv)) [] s' H1 E f c' hr3 (takes_of rfl rfl rfl rfl)).sn
    have o' : Out X.K W (Den X.K) F H σ fp Q (match mb env with
      | .ok d e => (match R (.ok d) with
        | some r => .ok r e
        | none => .fail)
      | .exc x e => (match R (.exc x) with
        | some r => .ok r e
        | none => .fail)
      | .fail => .fail) := o
    have fin : ∀ (r : LO) (d' : D) (e : DEnv), R r = some d' → Out X.K W (Den X.K) F H σ fp Q (.ok d' e) → (∀ (E : XK) (Qx : VK), (match r with
        | .ok d => ∀ F' H' b, (∃ fp', Po F H fp F' H' fp' ∧ Rel X.K F' H' σ e fp') → Den X.K F' d b → Qx b H'
        | .exc x => ∀ F' H' c dd, (∃ fp', Po F H fp F' H' fp' ∧ Rel X.K F' H' σ e fp') → ExAt X.K F' x c dd → E c dd H') → tb E σ H1 Qx) →
        t' { nx := fun _ H' => Q .non H', rt := Q } (L2.start Ng [.ref f]) H1 := fun r d' e hR ho htl => by
      refine hsem (fun F' H' => ∃ fp', Po F H fp F' H' fp' ∧ Rel X.K F' H' σ e fp') r d' Q (fun F' H' ⟨fp', _, R'⟩ => R'.exk) (fun F' H' F'' H'' ⟨fp', P', R'⟩ gg => ⟨fp', P'.trans gg.po, R'.grow gg⟩) htl hR fun F' H' v ⟨fp', P', R'⟩ dv => ho F' H' fp' v P' R' dv
    cases hmb : mb env with
    | fail =>
      rw [hmb] at o'
      exact o'.elim
    | ok d e =>
      rw [hmb] at o'
      dsimp only at o'
      cases hR : R (.ok d) with
      | none =>
        rw [hR] at o'
        exact o'.elim
      | some d' =>
        rw [hR] at o'
        refine fin (.ok d) d' e hR o' fun E Qx hq2 => sn E F1 H1 σ env fp Qx ex_emp R1 ?_
        rw [hmb]
        exact fun F' H' fp' b P' R' db => hq2 F' H' b ⟨fp', g1.po.trans P', R'⟩ db
    | exc z e =>
      rw [hmb] at o'
      dsimp only at o'
      cases hR : R (.exc z) with
      | none =>
        rw [hR] at o'
        exact o'.elim
      | some d' =>
        rw [hR] at o'
        refine fin (.exc z) d' e hR o' fun E Qx hq2 => sn E F1 H1 σ env fp Qx ex_emp R1 ?_
        rw [hmb]
        exact fun F' H' fp' c dd P' R' ea => hq2 F' H' c dd ⟨fp', g1.po.trans P', R'⟩ ea
  refine wpAny_call (codeAny_mono rc fun r s2 hq => ?_)
  cases r with
  | error e => exact (show False from hq).elim
  | ok fl =>
    cases fl with
    | ret u => exact I1.after hq
    | next => exact False.elim hq
    | brk => exact False.elim hq
    | cont => exact False.elim hq
end
end DD
set_option maxHeartbeats 1000000
namespace DD
open PySem PySem.Spec PyProof.Rows L2
theorem mkD_of {K : PySem.W.Frag} {mg : Str → Option Value} {base : Heap} {x nm qual : Str} {params : Arguments} {body : List Stmt} {scope : Scope} {dvs : List V} {kws : List (Str × V)} {f : Addr} {fd : FuncData} {cdv : Value} (F : FunD K nm qual params body scope dvs kws f fd) (hf : f = cadr K x)
    (hc : PySem.W.codeIn K cdv qual = true) (hcv : fd.code = cdv) (TB : TabsB K mg base) (hx : x ∈ makers) (hm : mkB x K = true) : MkD K mg base cdv x := by
  unfold mkB at hm
  rw [Bool.and_eq_true] at hm
  obtain ⟨hl, ht⟩ := hm
  obtain ⟨oc, od, dV, kV, doc, pm, an, cdv', ct, osl, rfl, lk, hcd, _, _⟩ := F.ex
  have e : cdv' = cdv := hcv
  subst e
  cases cdv' with
  | ref c =>
    have hA : codA K x = some c := by
      unfold codA
      rw [← hf, lk]
    obtain ⟨P, hP⟩ := Option.isSome_iff_exists.mp ht
    exact ⟨c, P, rfl, hl, hx, hP, TB hl x hx c P hA hP⟩
  | _ => cases hcd
end DD
namespace DD
open PySem PySem.Spec PyProof.Rows L2
end DD
namespace DD
open PySem PySem.Spec PyProof.Rows L2
theorem call_str_bool {X : Cx} : CallR X (.type "str") (fun xs H Q => ∃ b, xs = [.bl b] ∧ Q (.str (if b then "True" else "False")) H) := by
  intro pins s σ H xs us Q I r h
  obtain ⟨b, rfl, q⟩ := h
  obtain ⟨u, rfl, rx⟩ := vals1 r
  cases rx
  exact PySem.P.str_of_bool ⟨.str _, H, I.tok _, ⟨_, rfl⟩, q⟩
def strBD : List D → Option D
  | [.bl b] => some (.str (if b then "True" else "False"))
  | _ => none
theorem cd_strB {K : PySem.W.Frag} : CallD K (fun xs H Q => ∃ b, xs = [.bl b] ∧ Q (.str (if b then "True" else "False")) H) strBD := by
  intro F H xs as z e hx hz Q k
  match xs, hz with
  | [.bl b], hz =>
    obtain ⟨a, rfl, h2⟩ := one_den hx
    have h2' : a = .bl b := h2
    subst h2'
    cases hz
    exact ⟨b, rfl, gr_val (z := .str (if b then "True" else "False")) e rfl k⟩
@[simp] theorem v_strB {b : Bool} : strBD [.bl b] = some (.str (if b then "True" else "False")) := id rfl
def mStrA (C : Str) (f : List D → RP) (a : MD) : MD := fun env => (a env).bind fun x e1 => match x with
  | .bl b => .ok (.str (if b then "True" else "False")) e1
  | .ins C1 n1 d1 => if C1 = C then (match f [.ins C1 n1 d1] with
    | .ok (.str r) => .ok (.str r) e1
    | _ => .fail) else .fail
  | _ => .fail
abbrev rStrA (a : Addr) (sp : Sp) : List V → Hp → VK → Prop := fun xs H Q => (∃ b, xs = [.bl b] ∧ Q (.str (if b then "True" else "False")) H) ∨ rStrI a sp xs H Q
section
variable {X : Cx} {W : WX} {k : Nat} {C : Str} {f : List D → RP} {pos : Pos} {e : Expr} {te ta : TE} {me ma : MD}
theorem sn_strA {K : PySem.W.Frag} (ha : Sn K W (Den K) emp ta ma) : Sn K W (Den K) emp (tCB (rStrA (cadr K C) (spP K 1 f)) (tCons ta tNil)) (mStrA C f ma) := by
  intro F H σ env fp Q _ R h
  refine ha.go ex_emp R h fun F1 H1 fp1 env1 x v P1 R1 d1 h1 => ?_
  cases x with
  | bl b =>
    have d1' : v = .bl b := d1
    subst d1'
    exact .inl ⟨b, rfl, h1 F1 H1 fp1 _ Po.refl R1 rfl⟩
  | ins C1 n1 z1 =>
    dsimp only at h1
    by_cases hC : C1 = C
    case neg => rw [if_neg hC] at h1; exact h1.elim
    rw [if_pos hC] at h1
    subst hC
    have e1 := d1
    obtain ⟨a, dx, vs, rfl, s1, l1, t1⟩ := d1
    refine .inr ⟨a, dx, _, rfl, R1.ex.at_ _ _ s1 rfl, ?_⟩
    cases hf : f [.ins C1 n1 z1] with
    | ok r =>
      rw [hf] at h1
      cases r with
      | str r => exact spP_call R1.exk (dens_cons e1 dens_nil) rfl hf fun F' H' v g dv => ⟨r, dv, h1 F' H' fp1 _ g.po (R1.grow g) dv⟩
      | _ => exact h1.elim
    | _ =>
      rw [hf] at h1
      exact h1.elim
  | _ => exact h1.elim
theorem pd_strA (G : MethD X.prog X.w X.K X.mg X.base k C "__str__" 1 f) (hr : Roam (k + 2) X.A) {x : Str} {p : Pos} (hg : Gl X x) (hm : X.mg x = none) (hv : bootBuiltins x = some (.type "str")) (ha : PD X W e te me) (hn : x ≠ "__name__" := by decide) (hdb : (x == ("__debug__" : Str)) = false := by decide)
    (he : starEach [e] X.env = (false, eval e X.env) :: starEach [] X.env := by rfl) (hpl : (backTo pos (starEach [] X.env)).any (·.1) = false := by rfl) : PD X W (.Call (.Name x p) [e] [] pos) (tCB (rStrA (cadr X.K C) (spP X.K 1 f)) (tCons te tNil)) (mStrA C f me) := by
  obtain ⟨g, fd, ps, hm', b', F⟩ := G.ex
  exact ⟨pe_callTy (call_str_bool.or (call_strI hm' F b' hr)) hg hm hv (pa_cons ha.pe pa_nil he) hn hdb he hpl, sn_strA ha.sn⟩
end
def stepIx (n : Nat) (lo hi : Option Int) (st : Int) : List Nat := sliceRange (sliceBounds lo hi (some st) n).1 (sliceBounds lo hi (some st) n).2.1 (sliceBounds lo hi (some st) n).2.2
def stepL {α : Type} (xs : List α) (lo hi : Option Int) (st : Int) : List α := (stepIx xs.length lo hi st).filterMap (xs[·]?)
theorem vals_pick {xs : List V} {us : List Value} (h : Vals xs us) : ∀ ix : List Nat, Vals (ix.filterMap (xs[·]?)) (ix.filterMap (us[·]?))
  | [] => .nil
  | i :: ix => by
    cases e : xs[i]? with
    | none =>
      rw [List.filterMap_cons_none e, List.filterMap_cons_none (Vals.none_of h e)]
      exact vals_pick h ix
    | some x =>
      obtain ⟨u, h1, h2⟩ := Vals.get h e
      rw [List.filterMap_cons_some e, List.filterMap_cons_some h1]
      exact .cons h2 (vals_pick h ix)
theorem slicePick_L (its : List Value) (lo hi : Option Int) (st : Int) : slicePick its.toArray lo hi (some st) = (stepL its lo hi st).toArray := by
  unfold slicePick stepL stepIx
  simp
def tStep (te : TE) (tl th ts : TO) (K : PySem.W.Frag) : TE := fun σ H Q => te σ H fun x H1 => tl σ H1 fun l H2 => th σ H2 fun u H3 => ts σ H3 fun st H4 => ∃ a xs c, x = .ref a ∧ SqL K H4 a xs ∧ st = some c ∧ c ≠ 0 ∧ ∀ p, H4 p = none → Q (.ref p) (upd H4 p (.lst (stepL xs l u c)))
section
variable {X : Cx} {W : WX}
theorem pe_step {e : Expr} {lo hi : Option Expr} {st : Expr} {te : TE} {tl th ts : TO} {p3 pos : Pos} (he : PE X e te) (hl : PO X lo tl) (hu : PO X hi th) (hs : PO X (some st) ts) : PE X (.Subscript e (.Slice lo hi (some st) p3) pos) (tStep te tl th ts X.K) := by
  refine ⟨fun pins s σ H Q I h => ?_⟩
  refine Subscript_ (thn (he.run pins s σ H _ I h) fun v s1 ⟨x, H1, I1, r1, q1⟩ => ?_)
  refine wpAny_Slice (thn (hl.run pins s1 σ H1 _ I1 q1) fun vl s2 ⟨l, H2, I2, pl, q2⟩ => ?_)
  refine thn (hu.run pins s2 σ H2 _ I2 q2) fun vu s3 ⟨u, H3, I3, pu, q3⟩ => ?_
  refine thn (hs.run pins s3 σ H3 _ I3 q3) fun vs s4 ⟨o, H4, I4, ps, q4⟩ => ?_
  obtain ⟨a, xs, c, ex, hx, ec, hc, q⟩ := q4
  subst ex ec
  cases r1
  have I5 : Inv X pins σ H4 { s4 with heap := s4.heap.push { cls := .type "slice", data := .fields #[vl, vu, vs] } } := I4.kept (t' := s4.toks) fun b ob q => Heap.get?_push_of_some _ q
  show wpAny (model X.prog X.w) X.A (subscriptTail e (.Slice lo hi (some st) p3) (.ref a) (.ref s4.heap.objs.size)) (EP X pins σ Q) X.xe { s4 with heap := s4.heap.push { cls := .type "slice", data := .fields #[vl, vu, vs] } }
  obtain ⟨its, r, ht, hz⟩ := I5.list hx
  have hlen := r.length
  refine tail_any (ops := [.ref a, .ref s4.heap.objs.size]) ht.isList.typeIs (PySem.slot_list_getitem.lookup) ?_ (by with_unfolding_all rfl)
  refine wpAny_getItem_list_slice ht.isList (Heap.IsSliceOf.new _ vl vu vs) pl pu ps (fun e => hc (Option.some.inj e)) ?_ (by rw [List.size_toArray]; omega)
  have hle := slicePick_size_le its.toArray l u (some c)
  rw [slicePick_L] at hle ⊢
  have rv : Vals (stepL xs l u c) (stepL its l u c) := by
    unfold stepL
    rw [hlen]
    exact vals_pick r _
  refine ⟨.ref _, _, I5.laid (t' := s4.toks) (o := .lst (stepL xs l u c)) (fun b ob q => Heap.get?_push_of_some _ q) (Nat.le_refl _) ?_, rfl, q _ (I5.hok.fresh (Nat.le_refl _))⟩
  exact ⟨by rw [rv.length]; rw [List.size_toArray, List.size_toArray] at hle; omega, _, 0, rv, Heap.get?_push_size _ rfl⟩
theorem dens_pick {K : PySem.W.Frag} {F : Hp} {ds : List D} {vs : List V} (h : Dens K F ds vs) : ∀ ix : List Nat, Dens K F (ix.filterMap (ds[·]?)) (ix.filterMap (vs[·]?))
  | [] => rfl
  | i :: ix => by
    have hl := Dens.length h
    cases e : ds[i]? with
    | none =>
      have e2 : vs[i]? = none := by
        rw [List.getElem?_eq_none_iff] at e ⊢
        omega
      rw [List.filterMap_cons_none e, List.filterMap_cons_none e2]
      exact dens_pick h ix
    | some d =>
      obtain ⟨v, h1, h2⟩ := Dens.get h e
      rw [List.filterMap_cons_some e, List.filterMap_cons_some h1]
      exact ⟨v, _, rfl, h2, dens_pick h ix⟩
def stepD (d : D) (lo hi : Option Int) : Option Int → Option D
  | some c => match d with
    | .lst ds => if c ≠ 0 then some (.lst (stepL ds lo hi c)) else none
    | _ => none
  | none => none
def mStep (a : MD) (l u st : DEnv → Rs (Option Int)) : MD := fun env => (a env).bind fun x e1 => (l e1).bind fun lo e2 => (u e2).bind fun hi e3 => (st e3).bind fun c e4 => ofO (stepD x lo hi c) e4
theorem pd_step {e : Expr} {te : TE} {me : MD} {lo hi : Option Expr} {st : Expr} {tl th ts : TO} {ml mh ms : DEnv → Rs (Option Int)} {pos p2 : Pos} (he : PD X W e te me) (hl : PDPart X W lo tl ml) (hu : PDPart X W hi th mh) (hs : PDPart X W (some st) ts ms) :
    PD X W (.Subscript e (.Slice lo hi (some st) p2) pos) (tStep te tl th ts X.K) (mStep me ml mh ms) := by
  refine ⟨pe_step he.pe hl.po hu.po hs.po, fun F H σ env fp Q _ R h => ?_⟩
  refine he.sn.go ex_emp R h fun F1 H1 fp1 env1 x v P1 R1 d1 h1 => ?_
  refine hl.sn.go ex_emp R1 h1 fun F2 H2 fp2 env2 l l' P2 R2 d2 h2 => ?_
  have d2' : l = l' := d2
  subst d2'
  refine hu.sn.go ex_emp R2 h2 fun F3 H3 fp3 env3 u u' P3 R3 d3 h3 => ?_
  have d3' : u = u' := d3
  subst d3'
  refine hs.sn.go ex_emp R3 h3 fun F4 H4 fp4 env4 c c' P4 R4 d4 h4 => ?_
  have d4' : c = c' := d4
  subst d4'
  obtain ⟨z, e, k⟩ := out_ofO R4 h4
  have dx := Den.mono (P2.f.trans (P3.f.trans P4.f)) _ _ d1
  match c, x, e with
  | some c, .lst ds, e =>
    by_cases hc : c ≠ 0
    · rw [show stepD (.lst ds) l u (some c) = some (.lst (stepL ds l u c)) from if_pos hc] at e
      cases e
      obtain ⟨p, vs, rfl, h1, h2⟩ := dx
      refine ⟨p, vs, c, rfl, .inl (R4.ex.rd h1), rfl, hc, fun r hr => ?_⟩
      have hd : Dens X.K F4 (stepL ds l u c) (stepL vs l u c) := by
        unfold stepL
        rw [Dens.length h2]
        exact dens_pick h2 _
      obtain ⟨g, d⟩ := gr_lst R4.ex hr hd
      exact k _ _ _ g d
    · rw [show stepD (.lst ds) l u (some c) = none from if_neg hc] at e
      cases e
end
theorem stepL_one {α : Type} (xs : List α) : stepL xs none none 1 = xs := by
  have h : stepIx xs.length none none 1 = List.range xs.length := by
    show sliceRange 0 (xs.length : Int) 1 = _
    unfold sliceRange
    have h1 : ((1 : Int) > 0) := by decide
    simp only [h1, if_true]
    by_cases hn : (0 : Int) < xs.length
    · rw [if_pos hn]
      have : (((xs.length : Int) - 0 + 1 - 1) / 1).toNat = xs.length := by rw [Int.ediv_one]; omega
      rw [this]
      conv => rhs; rw [← List.map_id (List.range xs.length)]
      refine List.map_congr_left fun k _ => ?_
      show ((0 : Int) + 1 * (k : Int)).toNat = id k
      simp only [id]
      omega
    · rw [if_neg hn]
      have : xs.length = 0 := by omega
      rw [this]
      rfl
  unfold stepL
  rw [h]
  have := PySem.W.krv_all xs.toArray
  simpa using this
theorem stepL_rev {α : Type} (xs : List α) : stepL xs none none (-1) = xs.reverse := by
  have h : stepIx xs.length none none (-1) = (List.range xs.length).reverse := by
    show sliceRange ((xs.length : Int) - 1) (-1) (-1) = _
    rw [PySem.W.krv_sliceRange, PySem.W.krv_range]
  unfold stepL
  rw [h, List.filterMap_reverse]
  have := PySem.W.krv_all xs.toArray
  congr 1
  simpa using this
theorem tuple_eq_declines_dict (l b : Addr) (items : Array Value) (n : Nat) (dd : Option Addr) (sl : Array (Option Value)) :
    Meets (Builtin.«tuple.__eq__» ⟨[.ref l, .ref b], []⟩) (fun _ R s => s.heap.get? l = some { cls := .type "tuple", dict := dd, data := .seq items n, slots := sl } ∧ (∃ o, s.heap.get? b = some o ∧ o.cls = .type "dict") ∧ R (.ok (.ret .notImplemented)) s) :=
  .of_wp fun prog w A R s h => by obtain ⟨hp, g, d, tk, os⟩ := s; obtain ⟨hl, ⟨⟨c2, d2, da2, s2⟩, hb, hc⟩, h⟩ := h; simp only at hc; subst hc; have f1 := F.sub_dict_tuple; wp_walk using wpAny_loadPart' hl, wpAny_loadPart' hb; exact ⟨_, rfl, h⟩
section
variable {A : Around} {s : Shared}
theorem eqAt_tuple_dict {κ : Type} [DecidableEq κ] {prog0 : Program} {w0 : World} {knd : KeyKind prog0 w0 κ} {l b : Addr} {items : Array Value} {ka : List (κ × Value)} (hl : s.heap.IsTuple l items) (db : s.heap.DictOf knd b ka) (hu : A.units < cLine) : SeqAt.EqAt A s (.ref l) (.ref b) false := by
  have hd := db.typeIs
  obtain ⟨o2, ho2, hc2⟩ := id hd
  have hne : l ≠ b := fun e => by
    subst e
    obtain ⟨o, ho, hc, _⟩ := hl
    rw [ho] at ho2
    cases ho2
    rw [hc] at hc2
    exact absurd hc2 (by simp)
  refine SeqAt.EqAt.of_refs hne fun prog w E Q h => ?_
  obtain ⟨⟨cls, dd, data, sl⟩, ho, hc, n, hdt⟩ := id hl
  simp only at hc hdt
  subst hc hdt
  exact (SeqAt.rc_eq_decline_or (k := false) ⟨_, ho, rfl⟩ hd (by decide) PySem.F.sub_dict_tuple PySem.F.slot_tuple_eq PySem.F.slot_dict_eq_refl
    (fun _ hq => call_meets PySem.F.slot_tuple_eq ⟨_, ho, rfl⟩ PySem.F.entry_tuple_eq (PySem.F.args_tuple_eq_2 _ _) (tuple_eq_declines_dict l b items n dd sl) ⟨ho, ⟨_, ho2, hc2⟩, hq⟩)
    (fun Q' hq => wpAny_call_entry PySem.F.slot_dict_eq_refl hd PySem.F.entry_dict_eq (by
      show wpAny _ _ (Builtin.Dict.dictSlotArgs "__eq__" ⟨[.ref b, .ref l], []⟩ >>= _) _ _ s
      refine wpAny_bind ?_
      unfold Builtin.Dict.dictSlotArgs
      refine wpAny_bind (wpAny_notOrdered_dict hd ?_)
      show wpAny _ _ (pure (Value.ref b, Value.ref l)) _ _ s
      refine wpAny_pure ?_
      refine wpAny_bind (wpAny_isInstance (T := "tuple") (show s.TypeIs (.ref l) "tuple" from ⟨_, ho, rfl⟩) PySem.F.sub_tuple_dict ?_)
      simp only [Bool.not_false, if_true]
      refine wpAny_bind (wpAny_rule (wpAny_pure ?_))
      exact ⟨_, rfl, hq⟩) (PySem.F.args_dict_eq_2 _ _))
    (fun _ hq => SeqAt.wpAny_isSame_ref_other' hne ho ho2 (by rw [hc2]; decide) hq) (.inr hu) h)
end
/-- {} in a list of tuples -/
def allTup : List D → Bool
  | [] => true
  | .tup _ :: ds => allTup ds
  | .wtp _ :: ds => allTup ds
  | _ => false
def inDct : D → D → Option D
  | .dct [] _, .lst es => if allTup es then some (.bl false) else none
  | _, _ => none
def AllT (K : PySem.W.Frag) (H : Hp) (xs : List V) : Prop := ∀ x ∈ xs, ∃ a ys, x = .ref a ∧ SqT K H a ys
def rDctIn (K : PySem.W.Frag) : R2 := fun x y H Q => ∃ d o ks p xs, x = .ref d ∧ H d = some (.frz o (.dK ks)) ∧ y = .ref p ∧ SqL K H p xs ∧ AllT K H xs ∧ Q (.bl false) H
theorem vals_mem : ∀ {xs : List V} {us : List Value} {u : Value}, Vals xs us → u ∈ us → ∃ x ∈ xs, RelV x u
  | _, _, _, .nil, h => by cases h
  | x :: xs, _, u, .cons r t, h => by
    rcases List.mem_cons.mp h with rfl | h
    · exact ⟨x, List.mem_cons_self, r⟩
    · obtain ⟨y, h1, h2⟩ := vals_mem t h
      exact ⟨y, List.mem_cons_of_mem _ h1, h2⟩
theorem op_dctIn {X : Cx} (hu : X.A.units + 65 < cLine) : OpR X (compareOp .In) (rDctIn X.K) := by
  intro pins s σ H x y v u Q I rx ry h
  obtain ⟨d, o, ks, p, xs, rfl, hd, rfl, hq, ha, q⟩ := h
  cases rx
  cases ry
  obtain ⟨its, r, pl, hz⟩ := I.list hq
  obtain ⟨hs1, _, _, _, _, vs1, _, _, kv1, m1⟩ := I.frzK hd
  refine SeqAt.in_listAt (fun _ => false) pl.isList (fun w hw => ?_) ⟨.bl _, H, I, rfl, ?_⟩
  · obtain ⟨x, hx, rx⟩ := vals_mem r (by simpa using hw)
    obtain ⟨a, ys, rfl, sq⟩ := ha x hx
    cases rx
    obtain ⟨its2, r2, pl2, hz2⟩ := I.tuple sq
    exact eqAt_tuple_dict pl2 m1.dictOf (by show X.A.units + 1 < cLine; omega)
  · have e : its.toArray.any (fun _ => false) = false := by simp
    rw [e]
    exact q
theorem allTup_den {K : PySem.W.Frag} {F H : Hp} (e : FH F H) : ∀ {ds : List D} {vs : List V}, Dens K F ds vs → allTup ds = true → AllT K H vs
  | [], vs, hd, h => by
    have e0 : vs = [] := hd
    subst e0
    exact fun x hx => by cases hx
  | d :: ds, vs, hd, h => by
    obtain ⟨x, xs, rfl, h3, h4⟩ := hd
    cases d with
    | tup ys =>
      intro z hz
      rcases List.mem_cons.mp hz with rfl | hz
      · obtain ⟨a, o, vs, rfl, h1, _, _⟩ := h3
        exact ⟨a, vs, rfl, .inl (.inr ⟨o, e.at_ _ _ h1 rfl⟩)⟩
      · exact allTup_den e h4 h z hz
    | wtp ys =>
      intro z hz
      rcases List.mem_cons.mp hz with rfl | hz
      · obtain ⟨a, vs, rfl, h1, _⟩ := h3
        exact ⟨a, vs, rfl, .inl (.inl (e.at_ _ _ h1 rfl))⟩
      · exact allTup_den e h4 h z hz
    | _ => cases h
theorem opd_dctIn {K : PySem.W.Frag} : OpD K (rDctIn K) inDct := by
  intro F H x y a b z e hx hy hz Q k
  match x, y, hz with
  | .dct [] ds, .lst es, hz =>
    by_cases h : allTup es = true
    · rw [show inDct (.dct [] ds) (.lst es) = some (.bl false) from if_pos h] at hz
      cases hz
      obtain ⟨p, o, vs, rfl, h1, h2, h3⟩ := hx
      obtain ⟨q, ws, rfl, h4, h5⟩ := hy
      exact ⟨p, o, _, q, ws, rfl, e.at_ _ _ h1 rfl, rfl, .inl (e.rd h4), allTup_den e h5 h, gr_val (z := .bl _) e rfl k⟩
    · rw [show inDct (.dct [] ds) (.lst es) = none from if_neg h] at hz
      cases hz
def inXD (d e : D) : Option D := match inDct d e with
  | some r => some r
  | none => inD d e
abbrev rInX (K : PySem.W.Frag) : R2 := fun x y H Q => rDctIn K x y H Q ∨ rInB K x y H Q
theorem op_inX {X : Cx} (hu : X.A.units + 65 < cLine) : OpR X (compareOp .In) (rInX X.K) := (op_dctIn hu).or (op_inB hu)
theorem opd_inX {K : PySem.W.Frag} : OpD K (rInX K) inXD := by
  intro F H x y a b z e hx hy hz Q k
  unfold inXD at hz
  cases h : inDct x y with
  | some r =>
    rw [h] at hz
    cases hz
    exact .inl (opd_dctIn F H x y a b _ e hx hy h Q k)
  | none =>
    rw [h] at hz
    exact .inr (opd_in F H x y a b _ e hx hy hz Q k)
end DD
set_option maxHeartbeats 200000
namespace DD
open PySem PySem.Spec PyProof.Rows L2
end DD
namespace DD
open PySem PySem.Spec PyProof.Rows L2
section
variable {α β : Type} {env e1 e2 : DEnv} {i j : Nat} {a b c : MD} {p q : MB} {x y z : D} {xs ys ds es : List D} {o o' : O} {os : List O} {m n : MS} {as : MA} {mo mo' : MO} {f : D → D → Option D} {g : List D → Option D} {k l : Int} {s t : Str}
@[simp] theorem e_skip : mSkip env = .nx env := id rfl
@[simp] theorem e_gVnil : gVnil [] env = some env := id rfl
/-- a store's end -/
def stored : Option DEnv → RS
  | some e => .nx e
  | none => .fail
@[simp] theorem stored_some : stored (some env) = .nx env := id rfl
@[simp] theorem stored_none : stored none = .fail := id rfl
@[simp] theorem e_asg {u : D → DEnv → Option DEnv} : mAsg a u env = (a env).on fun d e => stored (u d e) := by
  unfold mAsg
  cases a env with
  | ok x e =>
    show (match u x e with | some e' => RS.nx e' | none => RS.fail) = stored (u x e)
    cases u x e <;> rfl
  | exc x e => rfl
  | fail => rfl
@[simp] theorem flat_non : flatD .non = true := id rfl
@[simp] theorem flat_bl {w : Bool} : flatD (.bl w) = true := id rfl
@[simp] theorem flat_int : flatD (.int k) = true := id rfl
@[simp] theorem flat_str : flatD (.str s) = true := id rfl
@[simp] theorem flatO_s : flatO (some x) = if flatD x = true then some x else none := id rfl
@[simp] theorem flatO_n : flatO none = none := id rfl
theorem size_e : sizeLine = 16777216 := by decide
@[simp] theorem v_sub : subD (.int k) (.int l) = some (.int (k - l)) := id rfl
@[simp] theorem v_mul : mulD (.int k) (.int l) = if ((decide (-(2 ^ 64) < k) && decide (k < 2 ^ 64)) || (decide (-(2 ^ 64) < l) && decide (l < 2 ^ 64))) = true then some (.int (k * l)) else none := id rfl
@[simp] theorem v_div : divD (.int k) (.int l) = if (decide (0 < l) && decide (l < 1073741824)) = true then some (.int (k / l)) else none := id rfl
@[simp] theorem v_mod : modD (.int k) (.int l) = if decide (0 < l) = true then some (.int (k % l)) else none := id rfl
@[simp] theorem v_pow : powD (.int k) (.int l) = if (decide (0 ≤ l) && decide (l ≤ 1000000) && decide (k.natAbs < 2 ^ 64)) = true then some (.int (k ^ l.toNat)) else none := id rfl
@[simp] theorem v_lt : ltD (.int k) (.int l) = some (.bl (decide (k < l))) := id rfl
@[simp] theorem v_le : leD (.int k) (.int l) = some (.bl (decide (k ≤ l))) := id rfl
@[simp] theorem v_gt : gtD (.int k) (.int l) = some (.bl (decide (l < k))) := id rfl
@[simp] theorem v_ge : geD (.int k) (.int l) = some (.bl (decide (l ≤ k))) := id rfl
@[simp] theorem v_abs : absD [.int k] = some (.int (if k < 0 then -k else k)) := id rfl
@[simp] theorem v_max : max2D [.int k, .int l] = some (.int (if l > k then l else k)) := id rfl
@[simp] theorem v_min : min2D [.int k, .int l] = some (.int (if l < k then l else k)) := id rfl
@[simp] theorem v_int : intD [.int k] = some (.int k) := id rfl
end
end DD
namespace DD
open PySem PySem.Spec PyProof.Rows L2
/-- built of None, ints, texts, tuples, lists; nested n deep at most -/
def plN : Nat → D → Bool
  | _, .non => true
  | _, .int _ => true
  | _, .str s => PyData.canLay0 (.str s)
  | n + 1, .tup ds => ds.all (plN n)
  | n + 1, .lst ds => ds.all (plN n)
  | _, _ => false
theorem pls_py {n : Nat} (ih : ∀ d : D, plN n d = true → ∃ p, toPy d = some p ∧ p.canLay0 = true ∧ p.depth ≤ n) : ∀ ds : List D, ds.all (plN n) = true → ∃ ps, toPys ds = some ps ∧ PyData.canLayAll0 ps = true ∧ PyData.depthAll ps ≤ n
  | [], _ => ⟨[], rfl, rfl, Nat.zero_le _⟩
  | d :: ds, h => by
    rw [List.all_cons, Bool.and_eq_true] at h
    obtain ⟨p, h1, h2, h3⟩ := ih d h.1
    obtain ⟨ps, k1, k2, k3⟩ := pls_py ih ds h.2
    refine ⟨p :: ps, by simp [toPys, h1, k1], by simp [PyData.canLayAll0, h2, k2], ?_⟩
    simp only [PyData.depthAll]
    omega
theorem pl_py : ∀ {n : Nat} (d : D), plN n d = true → ∃ p, toPy d = some p ∧ p.canLay0 = true ∧ p.depth ≤ n
  | n, .non, _ => ⟨.none, rfl, rfl, Nat.zero_le _⟩
  | n, .int i, _ => ⟨.int i, rfl, rfl, Nat.zero_le _⟩
  | n, .str s, h => ⟨.str s, rfl, by
      cases n <;> exact h, Nat.zero_le _⟩
  | n + 1, .tup ds, h => by
    obtain ⟨ps, k1, k2, k3⟩ := pls_py (fun d hd => pl_py d hd) ds h
    exact ⟨.tuple ps, by simp [toPy, k1], k2, Nat.succ_le_succ k3⟩
  | n + 1, .lst ds, h => by
    obtain ⟨ps, k1, k2, k3⟩ := pls_py (fun d hd => pl_py d hd) ds h
    exact ⟨.list ps, by simp [toPy, k1], k2, Nat.succ_le_succ k3⟩
  | 0, .tup _, h => by cases h
  | 0, .lst _, h => by cases h
  | 0, .bl _, h => by cases h
  | _ + 1, .bl _, h => by cases h
  | 0, .wtp _, h => by cases h
  | _ + 1, .wtp _, h => by cases h
  | 0, .dct _ _, h => by cases h
  | _ + 1, .dct _ _, h => by cases h
  | 0, .dtt _ _, h => by cases h
  | _ + 1, .dtt _ _, h => by cases h
  | 0, .ins _ _ _, h => by cases h
  | _ + 1, .ins _ _ _, h => by cases h
  | 0, .scr _, h => by cases h
  | _ + 1, .scr _, h => by cases h
theorem pls_inj {n : Nat} (ih : ∀ (d e : D) (p q : PyData), plN n d = true → toPy d = some p → toPy e = some q → (∃ m, plN m e = true) → (PyData.eqv p q = true ↔ d = e)) :
    ∀ (ds es : List D) (ps qs : List PyData), ds.all (plN n) = true → toPys ds = some ps → toPys es = some qs → (∃ m, es.all (plN m) = true) → (PyData.eqvAll ps qs = true ↔ ds = es)
  | [], [], ps, qs, _, h1, h2, _ => by
    cases h1
    cases h2
    simp [PyData.eqvAll]
  | [], e :: es, ps, qs, _, h1, h2, _ => by
    cases h1
    obtain ⟨q, a1, h2⟩ := Option.bind_eq_some_iff.mp h2
    obtain ⟨qs', a2, rfl⟩ := Option.map_eq_some_iff.mp h2
    simp [PyData.eqvAll]
  | d :: ds, [], ps, qs, _, h1, h2, _ => by
    cases h2
    obtain ⟨q, a1, h1⟩ := Option.bind_eq_some_iff.mp h1
    obtain ⟨qs', a2, rfl⟩ := Option.map_eq_some_iff.mp h1
    simp [PyData.eqvAll]
  | d :: ds, e :: es, ps, qs, h, h1, h2, ⟨m, hm⟩ => by
    obtain ⟨p, a1, h1⟩ := Option.bind_eq_some_iff.mp h1
    obtain ⟨ps', a2, rfl⟩ := Option.map_eq_some_iff.mp h1
    obtain ⟨q, b1, h2⟩ := Option.bind_eq_some_iff.mp h2
    obtain ⟨qs', b2, rfl⟩ := Option.map_eq_some_iff.mp h2
    rw [List.all_cons, Bool.and_eq_true] at h hm
    rw [PyData.eqvAll, Bool.and_eq_true, ih d e p q h.1 a1 b1 ⟨m, hm.1⟩, pls_inj ih ds es ps' qs' h.2 a2 b2 ⟨m, hm.2⟩]
    simp
theorem pl_inj : ∀ {n : Nat} (d e : D) (p q : PyData), plN n d = true → toPy d = some p → toPy e = some q → (∃ m, plN m e = true) → (PyData.eqv p q = true ↔ d = e) := by
  intro n
  induction n with
  | zero =>
    intro d e p q hd hp hq hm
    obtain ⟨m, hm⟩ := hm
    cases d <;> first | (cases hd; done) | skip
    all_goals
      cases hp
      cases e <;> first | (cases m <;> (cases hm; done)) | skip
      all_goals first
        | (cases hq; simp [PyData.eqv]; done)
        | (obtain ⟨qs, b1, rfl⟩ := Option.map_eq_some_iff.mp hq; simp [PyData.eqv]; done)
  | succ n ih =>
    intro d e p q hd hp hq hm
    obtain ⟨m, hm⟩ := hm
    cases d <;> first | (cases hd; done) | skip
    case tup ds =>
      obtain ⟨ps, a1, rfl⟩ := Option.map_eq_some_iff.mp hp
      cases e <;> first | (cases m <;> (cases hm; done)) | skip
      case tup es =>
        obtain ⟨qs, b1, rfl⟩ := Option.map_eq_some_iff.mp hq
        cases m with
        | zero => cases hm
        | succ m =>
          rw [PyData.eqv, pls_inj ih ds es ps qs hd a1 b1 ⟨m, hm⟩]
          simp
      all_goals first
        | (cases hq; simp [PyData.eqv]; done)
        | (obtain ⟨qs, b1, rfl⟩ := Option.map_eq_some_iff.mp hq; simp [PyData.eqv]; done)
    case lst ds =>
      obtain ⟨ps, a1, rfl⟩ := Option.map_eq_some_iff.mp hp
      cases e <;> first | (cases m <;> (cases hm; done)) | skip
      case lst es =>
        obtain ⟨qs, b1, rfl⟩ := Option.map_eq_some_iff.mp hq
        cases m with
        | zero => cases hm
        | succ m =>
          rw [PyData.eqv, pls_inj ih ds es ps qs hd a1 b1 ⟨m, hm⟩]
          simp
      all_goals first
        | (cases hq; simp [PyData.eqv]; done)
        | (obtain ⟨qs, b1, rfl⟩ := Option.map_eq_some_iff.mp hq; simp [PyData.eqv]; done)
    all_goals
      cases hp
      cases e <;> first | (cases m <;> (cases hm; done)) | skip
      all_goals first
        | (cases hq; simp [PyData.eqv]; done)
        | (obtain ⟨qs, b1, rfl⟩ := Option.map_eq_some_iff.mp hq; simp [PyData.eqv]; done)
open Classical in
theorem eqv_pl {d e : D} (hd : plN 60 d = true) (he : plN 60 e = true) : eqvD d e = some (decide (d = e)) := by
  obtain ⟨p, a1, a2, a3⟩ := pl_py d hd
  obtain ⟨q, b1, b2, b3⟩ := pl_py e he
  unfold eqvD
  rw [a1, b1]
  have s1 : SeqAt.shaped p = true := by simp [SeqAt.shaped, a2]; omega
  have s2 : SeqAt.shaped q = true := by simp [SeqAt.shaped, b2]; omega
  have k := pl_inj d e p q hd a1 b1 ⟨_, he⟩
  simp only [Option.bind_some, s1, s2, and_self, if_true, Option.some.injEq]
  by_cases h : d = e
  · rw [decide_eq_true h]
    exact k.mpr h
  · rw [decide_eq_false h]
    exact Bool.eq_false_iff.mpr fun z => h (k.mp z)
open Classical in
theorem eq_pl {d e : D} (hd : plN 60 d = true) (he : plN 60 e = true) : eqD d e = some (.bl (decide (d = e))) := by
  unfold eqD
  rw [eqv_pl hd he]
  rfl
open Classical in
theorem ne_pl {d e : D} (hd : plN 60 d = true) (he : plN 60 e = true) : neD d e = some (.bl (decide (d ≠ e))) := by
  unfold neD
  rw [eqv_pl hd he]
  simp
open Classical in
theorem any_pl {d : D} {p : PyData} (hd : plN 60 d = true) (hp : toPy d = some p) : ∀ (es : List D) (qs : List PyData), es.all (plN 60) = true → toPys es = some qs → qs.any (fun z => PyData.eqv z p) = decide (d ∈ es)
  | [], qs, _, h => by
    cases h
    simp
  | e :: es, qs, h, h2 => by
    obtain ⟨q, b1, h2⟩ := Option.bind_eq_some_iff.mp h2
    obtain ⟨qs', b2, rfl⟩ := Option.map_eq_some_iff.mp h2
    rw [List.all_cons, Bool.and_eq_true] at h
    have k := pl_inj e d q p h.1 b1 hp ⟨_, hd⟩
    rw [List.any_cons, any_pl hd hp es qs' h.2 b2]
    by_cases he : d = e
    · have : PyData.eqv q p = true := k.mpr he.symm
      simp [this, he]
    · have : PyData.eqv q p = false := Bool.eq_false_iff.mpr fun z => he (k.mp z).symm
      simp [this, he]
open Classical in
theorem inB_plL {d : D} {es : List D} (hd : plN 60 d = true) (he : es.all (plN 60) = true) : inB d (.lst es) = some (decide (d ∈ es)) ∧ inB d (.tup es) = some (decide (d ∈ es)) := by
  obtain ⟨p, a1, a2, a3⟩ := pl_py d hd
  obtain ⟨qs, b1, b2, b3⟩ := pls_py (fun d hd => pl_py d hd) es he
  have s1 : SeqAt.shaped p = true := by simp [SeqAt.shaped, a2]; omega
  have s2 : SeqAt.shaped (.list qs) = true := by simp [SeqAt.shaped, PyData.canLay0, PyData.depth, b2]; omega
  have key : ((toPy d).bind fun a => (toPys es).bind fun bs => if SeqAt.shaped a = true ∧ SeqAt.shaped (.list bs) = true then some (bs.any fun z => PyData.eqv z a) else none) = some (decide (d ∈ es)) := by
    rw [a1, b1]
    simp only [Option.bind_some, s1, s2, and_self, if_true, Option.some.injEq]
    exact any_pl hd a1 es qs he b1
  constructor
  · cases d <;> exact key
  · cases d <;> exact key
open Classical in
theorem in_plL {d : D} {es : List D} (hd : plN 60 d = true) (he : es.all (plN 60) = true) : inD d (.lst es) = some (.bl (decide (d ∈ es))) := by
  unfold inD
  rw [(inB_plL hd he).1]
  rfl
open Classical in
theorem in_plT {d : D} {es : List D} (hd : plN 60 d = true) (he : es.all (plN 60) = true) : inD d (.tup es) = some (.bl (decide (d ∈ es))) := by
  unfold inD
  rw [(inB_plL hd he).2]
  rfl
open Classical in
theorem notIn_plL {d : D} {es : List D} (hd : plN 60 d = true) (he : es.all (plN 60) = true) : notInD d (.lst es) = some (.bl (decide (d ∉ es))) := by
  unfold notInD
  rw [(inB_plL hd he).1]
  simp
theorem forM_inv {tg : D → DEnv → Option DEnv} {body : MS} (I : List D → DEnv → Prop) (h : ∀ d ds env, I (d :: ds) env → ∃ e1 e2, tg d env = some e1 ∧ (body e1 = .nx e2 ∨ body e1 = .ct e2) ∧ I ds e2) :
    ∀ (ds : List D) (env : DEnv), I ds env → ∃ e, forM tg body ds env = .nx e ∧ I [] e
  | [], env, hI => ⟨env, rfl, hI⟩
  | d :: ds, env, hI => by
    obtain ⟨e1, e2, h1, h2, h3⟩ := h d ds env hI
    obtain ⟨e, k1, k2⟩ := forM_inv I h ds e2 h3
    refine ⟨e, ?_, k2⟩
    unfold forM
    rw [h1]
    rcases h2 with h2 | h2 <;> (simp only [h2]; exact k1)
theorem lcM_inv {tg : D → DEnv → Option DEnv} {tst : MB} {elt : MD} {vs : List Nat} (I : List D → List D → DEnv → Prop)
    (h : ∀ d ds acc env, I (d :: ds) acc env → ∃ e1, tg d env = some e1 ∧ ((∃ e2 y e3, tst e1 = .ok true e2 ∧ elt e2 = .ok y e3 ∧ I ds (acc ++ [y]) (wipeE e3 vs)) ∨ (∃ e2, tst e1 = .ok false e2 ∧ I ds acc (wipeE e2 vs)))) :
    ∀ (ds acc : List D) (env : DEnv), I ds acc env → ∃ ys e, lcM tg tst elt vs ds env = .ok ys e ∧ I [] (acc ++ ys) e
  | [], acc, env, hI => ⟨[], env, rfl, by rw [List.append_nil]; exact hI⟩
  | d :: ds, acc, env, hI => by
    obtain ⟨e1, h1, h2⟩ := h d ds acc env hI
    rcases h2 with ⟨e2, y, e3, h2, h3, h4⟩ | ⟨e2, h2, h4⟩
    · obtain ⟨ys, e, k1, k2⟩ := lcM_inv I h ds (acc ++ [y]) _ h4
      refine ⟨y :: ys, e, ?_, by rw [List.append_assoc] at k2; exact k2⟩
      unfold lcM
      simp only [h1, h2, h3, k1, Rs.bind_ok]
    · obtain ⟨ys, e, k1, k2⟩ := lcM_inv I h ds acc _ h4
      refine ⟨ys, e, ?_, k2⟩
      unfold lcM
      simp only [h1, h2, k1]
/-- a comprehension that changes nothing -/
theorem lcM_pure {i : Nat} {tst : MB} {elt : MD} {env : DEnv} {p : D → Bool} {g : D → D} (hw : env.set i none = env) : ∀ (ds : List D),
    (∀ d ∈ ds, tst (env.set i (some (.d d))) = .ok (p d) (env.set i (some (.d d))) ∧ (p d = true → elt (env.set i (some (.d d))) = .ok (g d) (env.set i (some (.d d))))) →
    lcM (gV i) tst elt [i] ds env = .ok ((ds.filter p).map g) env
  | [], _ => rfl
  | d :: ds, h => by
    have ih := lcM_pure hw ds fun x hx => h x (List.mem_cons_of_mem _ hx)
    obtain ⟨h1, h2⟩ := h d List.mem_cons_self
    have back : wipeE (env.set i (some (.d d))) [i] = env := by
      show ((env.set i (some (.d d))).set i none) = env
      rw [List.set_set, hw]
    unfold lcM
    simp only [gV, h1]
    cases hp : p d with
    | true =>
      simp only [h2 hp, back, ih, Rs.bind_ok, List.filter_cons, hp, if_true, List.map_cons]
    | false =>
      simp only [back, ih, List.filter_cons, hp, Bool.false_eq_true, if_false]
theorem smallI_nat {n : Nat} (h : n < 2 ^ 62) : smallI (n : Int) = true := by
  unfold smallI
  simp only [Bool.and_eq_true, decide_eq_true_eq]
  omega
theorem v_range1 {n : Nat} (h : n < 2 ^ 62) : rngD [.int (n : Int)] = some ((List.range n).map fun k => .int (k : Nat)) := by
  show (if smallI (n : Int) = true then some (rngL 0 (n : Int).toNat) else none) = _
  rw [if_pos (smallI_nat h)]
  simp [rngL]
theorem v_cut {α : Type} {xs : List α} {a b : Nat} : cutD xs (some (a : Int)) (some (b : Int)) = (xs.take b).drop a := by
  unfold cutD HT.sIx
  simp only [Int.not_lt.mpr (Int.natCast_nonneg _), if_false, Int.toNat_natCast]
  rw [List.drop_take]
  by_cases ha : a ≤ xs.length
  · by_cases hb : b ≤ xs.length
    · simp [Nat.min_eq_left ha, Nat.min_eq_left hb]
    · have hb' : xs.length ≤ b := by omega
      rw [Nat.min_eq_left ha, Nat.min_eq_right hb']
      rw [List.take_of_length_le (by simp), List.take_of_length_le (by simp; omega)]
  · have ha' : xs.length ≤ a := by omega
    rw [Nat.min_eq_right ha']
    simp [List.drop_of_length_le ha']
theorem v_cut0 {α : Type} {xs : List α} {b : Nat} : cutD xs none (some (b : Int)) = xs.take b := by
  have := v_cut (xs := xs) (a := 0) (b := b)
  rw [List.drop_zero] at this
  rw [← this]
  unfold cutD HT.sIx
  simp
end DD
namespace DD
open PySem PySem.Spec PyProof.Rows L2
theorem mFun_at {nN n : Nat} {b : MS} {ds : List D} (h : ds.length = n) : mFun nN n b ds = finP (b (startE nN (ds.map .d))) := if_pos h
theorem e_app {i : Nat} {me : MD} {env e : DEnv} {d : D} {os : List O} (h1 : ∃ os0, env[i]? = some (some (.lst os0))) (h : me env = .ok d e) (h2 : e[i]? = some (some (.lst os))) (hl : os.length < sizeLine) : mApp i me env = .nx (e.set i (some (.lst (os ++ [.d d])))) := by
  obtain ⟨os0, h1⟩ := h1
  unfold mApp
  simp only [h1, h, Rs.on_ok, h2, hl, if_true]
theorem e_ext {i : Nat} {me : MD} {env e : DEnv} {ds : List D} {os : List O} (h1 : ∃ os0, env[i]? = some (some (.lst os0))) (h : me env = .ok (.lst ds) e) (h2 : e[i]? = some (some (.lst os))) (hl : os.length + ds.length ≤ sizeLine) : mExt i me env = .nx (e.set i (some (.lst (os ++ ds.map .d)))) := by
  obtain ⟨os0, h1⟩ := h1
  unfold mExt
  simp only [h1, h, Rs.on_ok, h2, hl, if_true]
theorem e_frz {i : Nat} {m : MS} {env : DEnv} {o : O} (h : env[i]? = some (some o)) : mFrz i m env = m (env.set i (some (.d (fz o)))) := by
  unfold mFrz
  rw [h]
theorem pow64 : (2 : Int) ^ 64 = 18446744073709551616 := by decide
theorem mul_small {k l : Int} (h : (-1000000000000 < l ∧ l < 1000000000000) ∨ (-1000000000000 < k ∧ k < 1000000000000)) : mulD (.int k) (.int l) = some (.int (k * l)) := by
  rw [v_mul, if_pos]
  rw [pow64, Bool.or_eq_true, Bool.and_eq_true, Bool.and_eq_true]
  simp only [decide_eq_true_eq]
  omega
end DD
namespace DD
open PySem
def cpOk (x : Str) : Prop := ∀ c ∈ x.cps.toList, c < 0x110000
theorem strOk_iff {x : Str} : PyData.canLay0 (.str x) = true ↔ cpOk x := by
  simp only [PyData.canLay0, PyData.strOk]
  rw [Array.all_eq_true_iff_forall_mem]
  unfold cpOk
  simp only [Array.mem_toList_iff, decide_eq_true_eq]
theorem cpOk_app {x y : Str} (hx : cpOk x) (hy : cpOk y) : cpOk (x ++ y) := by
  intro c hc
  have e : (x ++ y).cps.toList = x.cps.toList ++ y.cps.toList := by
    show (x.cps ++ y.cps).toList = _
    rw [Array.toList_append]
  rw [e] at hc
  rcases List.mem_append.mp hc with h | h
  · exact hx c h
  · exact hy c h
theorem char_lt (c : Char) : c.toNat < 0x110000 := by
  have h := c.valid
  simp only [UInt32.isValidChar, Nat.isValidChar] at h
  show c.val.toNat < _
  omega
theorem cpOk_of (s : String) : cpOk (Str.ofString s) := by
  intro c hc
  rw [Str.ofString_eq_toList] at hc
  obtain ⟨d, _, rfl⟩ := List.mem_map.mp (by simpa using hc)
  exact char_lt d
theorem cpOk_join {sep : Str} (hs : cpOk sep) : ∀ {ts : List Str}, (∀ t ∈ ts, cpOk t) → cpOk (Str.join sep ts)
  | [], _ => fun c hc => by
    have : (Str.join sep []).cps.toList = [] := rfl
    rw [this] at hc
    cases hc
  | [x], h => h x List.mem_cons_self
  | x :: y :: r, h => cpOk_app (cpOk_app (h x List.mem_cons_self) hs) (cpOk_join hs fun t ht => h t (List.mem_cons_of_mem _ ht))
theorem reprChar_ok {q c : Nat} (hq : q < 0x110000) (hc : c < 0x110000) : ∀ d ∈ Builtin.Str.reprChar q c, d < 0x110000 := by
  have hex : ∀ w d, d ∈ (List.replicate (w - ((Nat.toDigits 16 c).map Char.toNat).length) 48 ++ (Nat.toDigits 16 c).map Char.toNat) → d < 0x110000 := by
    intro w d hd
    rcases List.mem_append.mp hd with h | h
    · have := List.eq_of_mem_replicate h
      omega
    · obtain ⟨e, _, rfl⟩ := List.mem_map.mp h
      exact char_lt e
  intro d hd
  unfold Builtin.Str.reprChar at hd
  dsimp only at hd
  repeat' split at hd
  all_goals (simp only [List.mem_append, List.mem_cons, List.not_mem_nil, or_false] at hd)
  all_goals first
    | omega
    | (rcases hd with hd | hd
       · omega
       · exact hex _ d (List.mem_append.mpr hd))
theorem reprText_ok {x : Str} (h : cpOk x) : cpOk (reprText x) := by
  have hq : reprQuote x < 0x110000 := by
    unfold reprQuote
    split <;> omega
  have key : ∀ (l : List Nat) (acc : Array Nat), (∀ c ∈ l, c < 0x110000) → (∀ c ∈ acc.toList, c < 0x110000) → ∀ c ∈ (l.foldl (fun out c => out ++ (Builtin.Str.reprChar (reprQuote x) c).toArray) acc).toList, c < 0x110000 := by
    intro l
    induction l with
    | nil => exact fun acc _ h => h
    | cons a l ih =>
      intro acc h1 h2
      refine ih _ (fun c hc => h1 c (List.mem_cons_of_mem _ hc)) fun c hc => ?_
      rw [Array.toList_append] at hc
      rcases List.mem_append.mp hc with z | z
      · exact h2 c z
      · exact reprChar_ok hq (h1 a List.mem_cons_self) c (by simpa using z)
  intro c hc
  unfold reprText at hc
  rw [← Array.foldl_toList] at hc
  have hc' : c ∈ ((x.cps.toList.foldl (fun out c => out ++ (Builtin.Str.reprChar (reprQuote x) c).toArray) #[reprQuote x]).push (reprQuote x)).toList := hc
  rw [Array.toList_push] at hc'
  rcases List.mem_append.mp hc' with z | z
  · exact key x.cps.toList #[reprQuote x] h (fun c hc => by
      have : c = reprQuote x := by simpa using hc
      rw [this]
      exact hq) c z
  · have : c = reprQuote x := by simpa using z
    rw [this]
    exact hq
mutual
/-- texts without strange signs inside -/
def strsOk : PyData → Prop
  | .str x => cpOk x
  | .list xs | .tuple xs => strsOkAll xs
  | .dict _ => False
  | _ => True
def strsOkAll : List PyData → Prop
  | [] => True
  | x :: xs => strsOk x ∧ strsOkAll xs
end
theorem join_tup {ts : List Str} (h : ∀ t ∈ ts, cpOk t) : cpOk (tupleText ts) := by
  unfold tupleText
  exact cpOk_app (cpOk_app (cpOk_of _) (cpOk_join (cpOk_of _) h)) (cpOk_of _)
theorem join_lst {ts : List Str} (h : ∀ t ∈ ts, cpOk t) : cpOk (listText ts) := by
  rw [listText_eq_join]
  exact cpOk_app (cpOk_app (cpOk_of _) (cpOk_join (cpOk_of _) h)) (cpOk_of _)
mutual
theorem shown_cpOk : ∀ d : PyData, strsOk d → cpOk d.shown
  | .none, _ => by
    rw [PyData.shown_none]
    exact cpOk_of _
  | .bool b, _ => by
    rw [PyData.shown_bool]
    cases b <;> exact cpOk_of _
  | .int i, _ => by
    rw [PyData.shown_int]
    exact cpOk_of _
  | .str x, h => by
    rw [PyData.shown_str]
    exact reprText_ok (by simpa only [strsOk] using h)
  | .list xs, h => by
    simp only [PyData.shown]
    exact join_lst (shownAll_cpOk xs (by simpa only [strsOk] using h))
  | .tuple xs, h => by
    simp only [PyData.shown]
    exact join_tup (shownAll_cpOk xs (by simpa only [strsOk] using h))
  | .dict _, h => by
    simp only [strsOk] at h
theorem shownAll_cpOk : ∀ xs : List PyData, strsOkAll xs → ∀ t ∈ PyData.shownAll xs, cpOk t
  | [], _, t, ht => by
    simp only [PyData.shownAll_nil] at ht
    cases ht
  | x :: xs, h, t, ht => by
    simp only [strsOkAll] at h
    rw [PyData.shownAll_cons] at ht
    rcases List.mem_cons.mp ht with e | ht
    · rw [e]
      exact shown_cpOk x h.1
    · exact shownAll_cpOk xs h.2 t ht
end
end DD
namespace DD
open PySem PySem.Spec PyProof.Rows L2
/-- built of None, truths, ints of 60 digits at most, texts, tuples, lists; nested n deep at most -/
def smN : Nat → D → Bool
  | _, .non => true
  | _, .bl _ => true
  | _, .int i => decide (i.natAbs < 10 ^ 60)
  | _, .str s => PyData.canLay0 (.str s)
  | n + 1, .tup ds => ds.all (smN n)
  | n + 1, .lst ds => ds.all (smN n)
  | _, _ => false
mutual
def wtD : D → Nat
  | .str x => x.length
  | .tup ds | .lst ds => wtDs ds
  | .int _ => 200
  | _ => 0
def wtDs : List D → Nat
  | [] => 0
  | d :: ds => wtD d + 1 + wtDs ds
end
theorem log2_small {i : Int} (h : i.natAbs < 10 ^ 60) : i.natAbs.log2 < 200 := by
  by_cases z : i.natAbs = 0
  · rw [z]
    decide
  · rw [Nat.log2_lt z]
    have : 10 ^ 60 < 2 ^ 200 := by decide
    omega
mutual
theorem sm_py : ∀ {n : Nat} (d : D), smN n d = true → ∃ p, toPy d = some p ∧ p.showable = true ∧ p.hasDict = false ∧ p.depth ≤ n ∧ p.leavesShort 64 = true ∧ p.weight ≤ wtD d ∧ strsOk p
  | n, .non, _ => ⟨.none, rfl, rfl, rfl, Nat.zero_le _, rfl, by simp [PyData.weight], trivial⟩
  | n, .bl b, _ => ⟨.bool b, rfl, rfl, rfl, Nat.zero_le _, rfl, by simp [PyData.weight], trivial⟩
  | n, .int i, h => by
    have h' : i.natAbs < 10 ^ 60 := by
      cases n <;> simpa only [smN, decide_eq_true_eq] using h
    have hl := log2_small h'
    refine ⟨.int i, rfl, ?_, rfl, Nat.zero_le _, ?_, ?_, trivial⟩
    · simp only [PyData.showable, decide_eq_true_eq]
      omega
    · simp only [PyData.leavesShort, decide_eq_true_eq]
      have e := int_text_length_le10 (k := 60) (by decide) h'
      rw [PyData.shown_int, PySem.ofString_length]
      omega
    · simp only [PyData.weight, wtD]
      split <;> omega
  | n, .str s, h => by
    have h' : PyData.canLay0 (.str s) = true := by cases n <;> exact h
    refine ⟨.str s, rfl, rfl, rfl, Nat.zero_le _, PyData.leavesShort_of_canLay0 64 _ h' rfl, ?_, strOk_iff.mp h'⟩
    simp only [PyData.weight, wtD]
    exact Nat.le_refl _
  | n + 1, .tup ds, h => by
    obtain ⟨ps, a, b, c, d, e, f, g⟩ := sms_py ds h
    refine ⟨.tuple ps, by simp [toPy, a], by simpa only [PyData.showable] using b, by simpa only [PyData.hasDict] using c, Nat.succ_le_succ d, by simpa only [PyData.leavesShort] using e, by simpa only [PyData.weight, wtD] using f, by simpa only [strsOk] using g⟩
  | n + 1, .lst ds, h => by
    obtain ⟨ps, a, b, c, d, e, f, g⟩ := sms_py ds h
    refine ⟨.list ps, by simp [toPy, a], by simpa only [PyData.showable] using b, by simpa only [PyData.hasDict] using c, Nat.succ_le_succ d, by simpa only [PyData.leavesShort] using e, by simpa only [PyData.weight, wtD] using f, by simpa only [strsOk] using g⟩
  | 0, .tup _, h => by cases h
  | 0, .lst _, h => by cases h
  | 0, .wtp _, h => by cases h
  | _ + 1, .wtp _, h => by cases h
  | 0, .dct _ _, h => by cases h
  | _ + 1, .dct _ _, h => by cases h
  | 0, .dtt _ _, h => by cases h
  | _ + 1, .dtt _ _, h => by cases h
  | 0, .ins _ _ _, h => by cases h
  | _ + 1, .ins _ _ _, h => by cases h
  | 0, .scr _, h => by cases h
  | _ + 1, .scr _, h => by cases h
theorem sms_py : ∀ {n : Nat} (ds : List D), ds.all (smN n) = true → ∃ ps, toPys ds = some ps ∧ PyData.showableAll ps = true ∧ PyData.hasDictAll ps = false ∧ PyData.depthAll ps ≤ n ∧ PyData.leavesShortAll 64 ps = true ∧ PyData.weightAll ps ≤ wtDs ds ∧ strsOkAll ps
  | n, [], _ => ⟨[], rfl, rfl, rfl, Nat.zero_le _, rfl, Nat.zero_le _, trivial⟩
  | n, d :: ds, h => by
    rw [List.all_cons, Bool.and_eq_true] at h
    obtain ⟨p, a, b, c, d', e, f, g⟩ := sm_py d h.1
    obtain ⟨ps, a2, b2, c2, d2, e2, f2, g2⟩ := sms_py ds h.2
    refine ⟨p :: ps, by simp [toPys, a, a2], by simp [PyData.showableAll, b, b2], by simp [PyData.hasDictAll, c, c2], ?_, by simp [PyData.leavesShortAll, e, e2], ?_, by simp only [strsOkAll]; exact ⟨g, g2⟩⟩
    · simp only [PyData.depthAll]
      omega
    · simp only [PyData.weightAll, wtDs]
      omega
end
theorem repr_some {d : D} (h : smN 50 d = true) (hw : wtD d ≤ 200000) : ∃ s, reprD [d] = some (.str s) ∧ PyData.canLay0 (.str s) = true := by
  obtain ⟨p, a, b, c, e, f, g, k⟩ := sm_py d h
  refine ⟨p.shown, ?_, strOk_iff.mpr (shown_cpOk p k)⟩
  have hs := PyData.shown_le 64 (by decide) p f
  have hl : p.shown.length ≤ sizeLine := by
    have e1 : sizeLine = 16777216 := by decide
    rw [e1]
    have : (64 + 2) * p.weight ≤ 66 * 200000 := Nat.mul_le_mul_left _ (by omega)
    omega
  show ((toPy d).bind fun p => if p.showable = true ∧ p.hasDict = false ∧ p.depth ≤ 50 ∧ p.shown.length ≤ sizeLine then some (D.str p.shown) else none) = some (D.str p.shown)
  rw [a, Option.bind_some, if_pos ⟨b, c, e, hl⟩]
end DD
set_option maxHeartbeats 4000000
namespace Mi
open PySem PySem.Spec PyProof.Rows L2 DD
def b_l_jar : MS := (mSeq (mSet 2 (mIf (mTest (mOp ltD (mVar 1) (mCB lenD (mCons (mVar 0) mNil)))) (mOp getD (mVar 0) (mVar 1)) (mOp addD (mOp mulD (mC (.int 9)) (mVar 1)) (mC (.int 5)))))
  (mSeq (mSet 3 (mOp addD (mC (.int 50023)) (mOp mulD (mC (.int 7013)) (mVar 1))))
  (mSeq (mFor (mIter (mOp addD (mSlice (mVar 0) mNoPart (mPart (mC (.int 5)))) (mLst (mCons (mVar 2) mNil)))) (gV 4) (mSet 3 (mOp modD (mCB intD (mCons (mOp addD (mOp mulD (mVar 3) (mC (.int 31337))) (mVar 4)) mNil)) (mC (.int 2147483249)))))
  (mRetO (mLstO (mCons (mIf (mOr (mTest (mOp ltD (mVar 2) (mC (.int 0)))) (mTest (mOp geD (mVar 2) (mOp powD (mC (.int 10)) (mC (.int 18)))))) (mCB absD (mCons (mVar 2) mNil)) (mC (.int 0))) (mCons (mVar 3) (mCons (mC (.int 0)) mNil))))))))
def m_l_jar : List D → RP := mFun 5 2 b_l_jar
def b_is_one_of : MS := (mRet (mAndV (mUn (isiD "str") (mVar 0)) (mOp inD (mVar 0) (mVar 1))))
def m_is_one_of : List D → RP := mFun 2 2 b_is_one_of
def b_are_different : MS := (mSeq (mIfS (mOr (mNot (mTest (mUn (isiD "tuple") (mVar 0)))) (mNot (mTest (mCB allD (mCons (mLc (mIter (mVar 0)) (gV 2) mYes (mCall m_is_one_of (mCons (mVar 2) (mCons (mVar 1) mNil))) [2]) mNil))))) (mRet (mC (.bl false))) mSkip)
  (mRet (mOp eqD (mUn lenSetD (mVar 0)) (mCB lenD (mCons (mVar 0) mNil)))))
def m_are_different : List D → RP := mFun 3 2 b_are_different
def b_in_order : MS := (mSeq (mSet 2 (mLc (mIter (mVar 1)) (gV 3) mYes (mIndex (mVar 0) (mVar 3)) [3]))
  (mRet (mOp eqD (mVar 2) (mCB sortedD (mCons (mVar 2) mNil)))))
def m_in_order : List D → RP := mFun 4 2 b_in_order
def b_fails_until : MS := (mSeq (mFor (mEnum (mVar 1)) (gT 2 (gVcons (gV 2) (gVcons (gV 3) gVnil))) (mSeq (mIfS (mOr (mTest (mOp geD (mVar 2) (mC (.int 8)))) (mNot (mTest (mCall m_are_different (mCons (mVar 3) (mCons (mVar 0) mNil)))))) (mRet (mVar 2)) mSkip)
  (mIfS (mOr (mNot (mTest (mCall m_in_order (mCons (mVar 0) (mCons (mVar 3) mNil))))) (mTest (mOp inD (mVar 3) (mSlice (mVar 1) mNoPart (mPart (mVar 2)))))) (mRet (mVar 2)) mSkip)))
  (mRet (mC .non)))
def m_fails_until : List D → RP := mFun 4 2 b_fails_until
def b_is_name : MS := (mRet (mAndV (mUn (isiD "str") (mVar 0)) (mAndV (mChain leD leD (mC (.int 1)) (mCB lenD (mCons (mVar 0) mNil)) (mC (.int 8))) (mCB allD (mCons (mLc (mIter (mVar 0)) (gV 1) mYes (mOp inD (mVar 1) (mC (.str "abcdefghijklmnopqrstuvwxyz"))) [1]) mNil)))))
def m_is_name : List D → RP := mFun 2 1 b_is_name
def b_is_client_name : MS := (mRet (mAndV (mCall m_is_name (mCons (mVar 0) mNil)) (mOp neD (mVar 0) (mC (.str "w")))))
def m_is_client_name : List D → RP := mFun 1 1 b_is_client_name
def b_names_until : MS := (mSeq (mFor (mEnum (mVar 0)) (gT 2 (gVcons (gV 3) (gVcons (gV 4) gVnil))) (mIfS (mOr (mTest (mOp geD (mVar 3) (mVar 1))) (mOr (mNot (mTest (mCall m_is_client_name (mCons (mVar 4) mNil)))) (mOr (mTest (mOp inD (mVar 4) (mSlice (mVar 0) mNoPart (mPart (mVar 3))))) (mTest (mOp inD (mVar 4) (mVar 2)))))) (mRet (mVar 3)) mSkip))
  (mRet (mC .non)))
def m_names_until : List D → RP := mFun 5 3 b_names_until
def b_is_pair : MS := (mRet (mAndV (mCall m_are_different (mCons (mVar 1) (mCons (mVar 0) mNil))) (mOp eqD (mCB lenD (mCons (mVar 1) mNil)) (mC (.int 2)))))
def m_is_pair : List D → RP := mFun 2 2 b_is_pair
def b_promises_until : MS := (mSeq (mFor (mEnum (mVar 1)) (gT 2 (gVcons (gV 2) (gVcons (gV 3) gVnil))) (mIfS (mOr (mNot (mTest (mCall m_is_pair (mCons (mVar 0) (mCons (mVar 3) mNil))))) (mTest (mOp inD (mVar 3) (mSlice (mVar 1) mNoPart (mPart (mVar 2)))))) (mRet (mVar 2)) mSkip))
  (mRet (mC .non)))
def m_promises_until : List D → RP := mFun 4 2 b_promises_until
def b_Setting_init : MS := (mSeq (mIfS (mOr (mNot (mTest (mUn (isiD "tuple") (mVar 1)))) (mTest (mOp eqD (mVar 1) (mTup mNil)))) (fun _ => .fail) mSkip)
  (mSeq (mSet 5 (mCall m_names_until (mCons (mVar 1) (mCons (mC (.int 8)) (mCons (mTup mNil) mNil)))))
  (mSeq (mIfS (mTest (mOp isNotD (mVar 5) (mC .non))) (fun _ => .fail) mSkip)
  (mSeq (mIfS (mOr (mNot (mTest (mUn (isiD "tuple") (mVar 2)))) (mTest (mOp eqD (mVar 2) (mTup mNil)))) (fun _ => .fail) mSkip)
  (mSeq (mSet 5 (mCall m_fails_until (mCons (mVar 1) (mCons (mVar 2) mNil))))
  (mSeq (mIfS (mTest (mOp isNotD (mVar 5) (mC .non))) (fun _ => .fail) mSkip)
  (mSeq (mIfS (mOr (mNot (mTest (mUn (isiD "tuple") (mVar 3)))) (mTest (mOp eqD (mVar 3) (mTup mNil)))) (fun _ => .fail) mSkip)
  (mSeq (mSet 5 (mCall m_names_until (mCons (mVar 3) (mCons (mC (.int 5)) (mCons (mVar 1) mNil)))))
  (mSeq (mIfS (mTest (mOp isNotD (mVar 5) (mC .non))) (fun _ => .fail) mSkip)
  (mSeq (mIfS (mNot (mTest (mUn (isiD "tuple") (mVar 4)))) (fun _ => .fail) mSkip)
  (mSeq (mSet 5 (mCall m_promises_until (mCons (mVar 3) (mCons (mVar 4) mNil))))
  (mSeq (mIfS (mTest (mOp isNotD (mVar 5) (mC .non))) (fun _ => .fail) mSkip)
  (mSeq (mSetA 0 "Setting" "houses" (mVar 1))
  (mSeq (mSetA 0 "Setting" "fails" (mVar 2))
  (mSeq (mSetA 0 "Setting" "readers" (mVar 3))
  (mSetA 0 "Setting" "promises" (mVar 4)))))))))))))))))
def m_Setting_init : O → List D → RI := mFunI 6 4 b_Setting_init
def b_l_built : MS := (mRet (mFz (mMake "Setting" m_Setting_init (mCons (mCB tupleD (mCons (mOp getD (mVar 0) (mC (.int 0))) mNil)) (mCons (mCB tupleD (mCons (mOp getD (mVar 0) (mC (.int 1))) mNil)) (mCons (mCB tupleD (mCons (mOp getD (mVar 0) (mC (.int 2))) mNil)) (mCons (mCB tupleD (mCons (mOp getD (mVar 0) (mC (.int 3))) mNil)) mNil)))))))
def m_l_built : List D → RP := mFun 1 1 b_l_built
def b_l_dip : MS := (mSeq (mAsg (mOp addD (mOpL getD 0 (mC (.int 2))) (mC (.int 1))) (gIx 0 (mC (.int 2))))
  (mSeq (mIfS (mTest (mOp gtD (mOpL getD 0 (mC (.int 0))) (mC (.int 0)))) (mSeq (mAsg (mCB divmodD (mCons (mOpL getD 0 (mC (.int 0))) (mCons (mVar 1) mNil))) (gT 2 (gVcons (gIx 0 (mC (.int 0))) (gVcons (gV 2) gVnil))))
  (mRet (mVar 2))) mSkip)
  (mSeq (mAsg (mOp modD (mCB intD (mCons (mOp addD (mOp mulD (mOpL getD 0 (mC (.int 1))) (mC (.int 48271))) (mOp mulD (mC (.int 20011)) (mOpL getD 0 (mC (.int 2))))) mNil)) (mC (.int 2147483399))) (gIx 0 (mC (.int 1))))
  (mRet (mOp modD (mCB intD (mCons (mOp divD (mOpL getD 0 (mC (.int 1))) (mC (.int 512))) mNil)) (mVar 1))))))
def m_l_dip : O → List D → RI := mFunI 3 1 b_l_dip
def b_l_one_of : MS := (mRet (mOp getD (mVar 1) (mCallI 0 m_l_dip (mCons (mCB lenD (mCons (mVar 1) mNil)) mNil))))
def m_l_one_of : O → List D → RI := mFunI 2 1 b_l_one_of
def b_l_labels : MS := (mSeq (mPar2 1 2 (mD (mLst (mCons (mC (.str "p")) (mCons (mC (.str "q")) (mCons (mC (.str "r")) (mCons (mC (.str "s")) (mCons (mC (.str "house")) (mCons (mC (.str "houses")) (mCons (mC (.str "fail")) (mCons (mC (.str "reader")) (mCons (mC (.str "promise")) (mCons (mC (.str "a")) (mCons (mC (.str "b")) (mCons (mC (.str "begin")) mNil)))))))))))))) (mLstO mNil))
  (mSeq (mSet 1 (mOp addD (mVar 1) (mLst (mCons (mC (.str "zzzzzzzz")) mNil))))
  (mSeq (mPar2 3 4 (mD (mCallI 0 m_l_dip (mCons (mC (.int 13)) mNil))) (mD (mCallI 0 m_l_one_of (mCons (mLst (mCons (mC (.int 1)) (mCons (mC (.int 2)) (mCons (mC (.int 5)) (mCons (mC (.int 7)) (mCons (mC (.int 11)) mNil)))))) mNil))))
  (mSeq (mFor (mRng (mCons (mC (.int 13)) mNil)) (gV 5) (mApp 2 (mOp getD (mVar 1) (mOp modD (mCB intD (mCons (mOp addD (mVar 3) (mOp mulD (mVar 4) (mVar 5))) mNil)) (mC (.int 13))))))
  (mFrz 2 (mRet (mVar 2)))))))
def m_l_labels : O → List D → RI := mFunI 6 0 b_l_labels
def b_l_some_of : MS := (mRet (mLc (mIter (mVar 1)) (gV 2) (mTest (mOp eqD (mCallI 0 m_l_dip (mCons (mC (.int 2)) mNil)) (mC (.int 0)))) (mVar 2) [2]))
def m_l_some_of : O → List D → RI := mFunI 3 1 b_l_some_of
def b_l_frame : MS := (mSeq (mPar2 3 4 (mD (mCallI 0 m_l_labels mNil)) (mD (mOp addD (mC (.int 1)) (mCallI 0 m_l_dip (mCons (mVar 1) mNil)))))
  (mSeq (mPar2 5 6 (mD (mSlice (mVar 3) mNoPart (mPart (mVar 4)))) (mD (mSlice (mVar 3) (mPart (mC (.int 8))) (mPart (mOp addD (mC (.int 9)) (mCallI 0 m_l_dip (mCons (mVar 2) mNil)))))))
  (mSeq (mPar2 7 8 (mLstO mNil) (mD (mLst mNil)))
  (mSeq (mFor (mRng (mCons (mOp addD (mC (.int 1)) (mCallI 0 m_l_dip (mCons (mC (.int 4)) mNil))) mNil)) (gV 9) (mSeq (mSet 10 (mIf (mTest (mOp eqD (mCallI 0 m_l_dip (mCons (mC (.int 2)) mNil)) (mC (.int 0)))) (mCallI 0 m_l_some_of (mCons (mVar 5) mNil)) (mLst (mCons (mCallI 0 m_l_one_of (mCons (mVar 5) mNil)) mNil))))
  (mIfS (mTest (mOpR notInD (mCB tupleD (mCons (mVar 10) mNil)) 7)) (mApp 7 (mCB tupleD (mCons (mVar 10) mNil))) mSkip)))
  (mSeq (mIfS (mTest (mOp eqD (mCallI 0 m_l_dip (mCons (mC (.int 3)) mNil)) (mC (.int 0)))) (mSet 7 (mLc (mIter (mVar 5)) (gV 13) mYes (mTup (mCons (mVar 13) mNil)) [13])) mSkip)
  (mSeq (mSet 11 (mCallI 0 m_l_dip (mCons (mC (.int 4)) mNil)))
  (mSeq (mFor (mIter (mVar 6)) (gV 12) (mSet 8 (mOp addD (mVar 8) (mLc (mIter (mVar 6)) (gV 14) (mAnd (mTest (mOp neD (mVar 14) (mVar 12))) (mTest (mOp ltD (mCallI 0 m_l_dip (mCons (mC (.int 4)) mNil)) (mVar 11)))) (mTup (mCons (mVar 12) (mCons (mVar 14) mNil))) [14]))))
  (mFrz 7 (mRet (mLst (mCons (mVar 5) (mCons (mVar 7) (mCons (mVar 6) (mCons (mVar 8) mNil))))))))))))))
def m_l_frame : O → List D → RI := mFunI 15 2 b_l_frame
end Mi
namespace Mi
open PySem PySem.Spec PyProof.Rows L2 DD
def b_l_falls : MS := (mRet (mCB anyD (mCons (mLc (mIter (mOp getD (mVar 0) (mC (.int 1)))) (gV 2) mYes (mCB allD (mCons (mLc (mIter (mVar 1)) (gV 3) mYes (mOp inD (mVar 3) (mVar 2)) [3]) mNil)) [2]) mNil)))
def m_l_falls : List D → RP := mFun 4 2 b_l_falls
def b_may_fall : MS := (mRet (mCB anyD (mCons (mLc (mIter (mFld "Setting" "fails" (mVar 0))) (gV 2) mYes (mCB allD (mCons (mLc (mIter (mVar 1)) (gV 3) mYes (mOp inD (mVar 3) (mVar 2)) [3]) mNil)) [2]) mNil)))
def m_may_fall : List D → RP := mFun 4 2 b_may_fall
end Mi
namespace Mi
open PySem PySem.Spec PyProof.Rows L2 DD
end Mi
namespace Mi
open PySem PySem.Spec PyProof.Rows L2 DD
end Mi
namespace Mi
open PySem PySem.Spec PyProof.Rows L2 DD
def b_clients_of : MS := (mRet (mTup (mCons (mC (.str "w")) (mStar (mFld "Setting" "readers" (mVar 0)) mNil))))
def m_clients_of : List D → RP := mFun 1 1 b_clients_of
end Mi
namespace Mi
open PySem PySem.Spec PyProof.Rows L2 DD
end Mi
namespace Mi
open PySem PySem.Spec PyProof.Rows L2 DD
end Mi
namespace Mi
open PySem PySem.Spec PyProof.Rows L2 DD
end Mi
namespace Mi
open PySem PySem.Spec PyProof.Rows L2 DD
end Mi
namespace Mi
open PySem PySem.Spec PyProof.Rows L2 DD
end Mi
namespace Mi
open PySem PySem.Spec PyProof.Rows L2 DD
end Mi
namespace Mi
open PySem PySem.Spec PyProof.Rows L2 DD
def b_Run_setting : MS := (mRet (mFld "Run" "place" (mVar 0)))
def m_Run_setting : List D → RP := mFun 1 1 b_Run_setting
def b_check_client : MS := (mIfS (mNot (mTest (mCall m_is_one_of (mCons (mVar 1) (mCons (mCall m_clients_of (mCons (mVar 0) mNil)) mNil))))) (fun _ => .fail) mSkip)
def m_check_client : List D → RP := mFun 2 2 b_check_client
end Mi
namespace Mi
open PySem PySem.Spec PyProof.Rows L2 DD
end Mi
namespace Mi
open PySem PySem.Spec PyProof.Rows L2 DD
end Mi
namespace Mi
open PySem PySem.Spec PyProof.Rows L2 DD
def b_Setting___str__ : MS := (mSeq (mSetO 1 (mLstO (mCons (mJoin (mC (.str " ")) (mLst (mCons (mC (.str "houses")) (mStar (mFld "Setting" "houses" (mVar 0)) mNil)))) mNil)))
  (mSeq (mExt 1 (mLc (mIter (mFld "Setting" "fails" (mVar 0))) (gV 2) mYes (mJoin (mC (.str " ")) (mLst (mCons (mC (.str "fail")) (mStar (mVar 2) mNil)))) [2]))
  (mSeq (mExt 1 (mLc (mIter (mFld "Setting" "readers" (mVar 0))) (gV 3) mYes (mJoined (mJcons (mC (.str "reader ")) (mJcons (mFmt (mVar 3)) mJnil))) [3]))
  (mSeq (mExt 1 (mLc (mIter (mFld "Setting" "promises" (mVar 0))) (gV 4) mYes (mJoin (mC (.str " ")) (mLst (mCons (mC (.str "promise")) (mStar (mVar 4) mNil)))) [4]))
  (mFrz 1 (mRet (mJoin (mC (.str "\n")) (mVar 1))))))))
def m_Setting___str__ : List D → RP := mFun 5 1 b_Setting___str__
end Mi
namespace Mi
open PySem PySem.Spec PyProof.Rows L2 DD
end Mi
namespace Mi
open PySem PySem.Spec PyProof.Rows L2 DD
end Mi
namespace Mi
open PySem PySem.Spec PyProof.Rows L2 DD
end Mi
namespace Mi
open PySem PySem.Spec PyProof.Rows L2 DD
end Mi
namespace Mi
open PySem PySem.Spec PyProof.Rows L2 DD
end Mi
namespace Mi
open PySem PySem.Spec PyProof.Rows L2 DD
end Mi
namespace Mi
open PySem PySem.Spec PyProof.Rows L2 DD
end Mi
namespace Mi
open PySem PySem.Spec PyProof.Rows L2 DD
end Mi
namespace Mi
open PySem PySem.Spec PyProof.Rows L2 DD
def b_Run_heard : MS := (mSeq (mDrop (mCall m_check_client (mCons (mProp "Run" m_Run_setting (mVar 0)) (mCons (mVar 1) mNil))))
  (mRet (mCB tupleD (mCons (mLc (mIter (mFld "Setting" "houses" (mProp "Run" m_Run_setting (mVar 0)))) (gV 2) (mTest (mDInF true (mVar 2) (mDGet (mFld "State" "answers" (mFld "Run" "state" (mVar 0))) (mVar 1)))) (mVar 2) [2]) mNil))))
def m_Run_heard : List D → RP := mFun 3 2 b_Run_heard
def b_is_heard : MS := (mRet (mOp inD (mVar 2) (mMeth "Run" "heard" m_Run_heard (mVar 0) (mCons (mVar 1) mNil))))
def m_is_heard : List D → RP := mFun 3 3 b_is_heard
def b_free_houses : MS := (mRet (mLc (mIter (mFld "Setting" "houses" (mProp "Run" m_Run_setting (mVar 0)))) (gV 2) (mNot (mTest (mCall m_is_heard (mCons (mVar 0) (mCons (mVar 1) (mCons (mVar 2) mNil)))))) (mVar 2) [2]))
def m_free_houses : List D → RP := mFun 3 2 b_free_houses
end Mi
namespace Mi
open PySem PySem.Spec PyProof.Rows L2 DD
end Mi
namespace Mi
open PySem PySem.Spec PyProof.Rows L2 DD
end Mi
namespace Mi
open PySem PySem.Spec PyProof.Rows L2 DD
end Mi
namespace Mi
open PySem PySem.Spec PyProof.Rows L2 DD
end Mi
namespace Mi
open PySem PySem.Spec PyProof.Rows L2 DD
end Mi
namespace Mi
open PySem PySem.Spec PyProof.Rows L2 DD
end Mi
namespace Mi
open PySem PySem.Spec PyProof.Rows L2 DD
end Mi
namespace Mi
open PySem PySem.Spec PyProof.Rows L2 DD
end Mi
namespace Mi
open PySem PySem.Spec PyProof.Rows L2 DD
end Mi
namespace Mi
open PySem PySem.Spec PyProof.Rows L2 DD
end Mi
namespace Mi
open PySem PySem.Spec PyProof.Rows L2 DD
end Mi
namespace Mi
open PySem PySem.Spec PyProof.Rows L2 DD
end Mi
namespace Mi
open PySem PySem.Spec PyProof.Rows L2 DD
end Mi
namespace Mi
open PySem PySem.Spec PyProof.Rows L2 DD
def b_Setting_can_fall_2 : MS := (mSeq (mIfS (mNot (mTest (mUn (isiD "tuple") (mVar 1)))) (mRaise1 "InvalidHouses" "index" (mCons (mC .non) mNil)) mSkip)
  (mSeq (mFor (mEnum (mVar 1)) (gT 2 (gVcons (gV 2) (gVcons (gV 3) gVnil))) (mIfS (mOr (mNot (mTest (mCall m_is_one_of (mCons (mVar 3) (mCons (mFld "Setting" "houses" (mVar 0)) mNil))))) (mTest (mOp inD (mVar 3) (mSlice (mVar 1) mNoPart (mPart (mVar 2)))))) (mRaise1 "InvalidHouses" "index" (mCons (mVar 2) mNil)) mSkip))
  (mRet (mCall m_may_fall (mCons (mVar 0) (mCons (mVar 1) mNil))))))
def m_Setting_can_fall_2 : List D → RP := mFun 4 2 b_Setting_can_fall_2
def b_l_falls_due : MS := (mSeq (mIfS (mNot (mTest (mUn (isiD "tuple") (mVar 1)))) (mRet (mLst (mCons (mC (.str "houses")) (mCons (mC (.str "None")) mNil)))) mSkip)
  (mSeq (mFor (mEnum (mVar 1)) (gT 2 (gVcons (gV 2) (gVcons (gV 3) gVnil))) (mIfS (mOr (mNot (mTest (mUn (isiD "str") (mVar 3)))) (mOr (mTest (mOp notInD (mVar 3) (mOp getD (mVar 0) (mC (.int 0))))) (mTest (mOp inD (mVar 3) (mSlice (mVar 1) mNoPart (mPart (mVar 2))))))) (mRet (mLst (mCons (mC (.str "houses")) (mCons (mCB reprED (mCons (mVar 2) mNil)) mNil)))) mSkip))
  (mRet (mLst (mCons (mC (.str "told")) (mCons (mCB strBD (mCons (mCall m_l_falls (mCons (mVar 0) (mCons (mVar 1) mNil))) mNil)) mNil))))))
def m_l_falls_due : List D → RP := mFun 4 2 b_l_falls_due
def r_l_heard_4 : LO → Option D := lamR 3 (some 1) [("InvalidHouses", 2, [("InvalidHouses", true), ("InvalidPromises", false), ("UnknownName", false)], fun x => (mLst (mCons ((mC (.str "houses"))) (mCons (mCB reprED (mCons (xfD x "index") mNil)) mNil)))), ("InvalidPromises", 2, [("InvalidHouses", false), ("InvalidPromises", true), ("UnknownName", false)], fun x => (mLst (mCons ((mC (.str "promises"))) (mCons (mCB reprED (mCons (xfD x "index") mNil)) mNil)))), ("UnknownName", 2, [("InvalidHouses", false), ("InvalidPromises", false), ("UnknownName", true)], fun x => (mLst (mCons ((mC (.str "name"))) (mCons (mCB reprED (mCons (xfD x "given") mNil)) mNil))))] (mRet (mLst (mCons (mC (.str "told")) (mCons (mStrA "Setting" m_Setting___str__ (mVar 1)) mNil))))
def b_Setting_joined : MS := (mSeq (mIfS (mNot (mTest (mCall m_is_pair (mCons (mFld "Setting" "readers" (mVar 0)) (mCons (mVar 1) mNil))))) (mRaise1 "InvalidPromises" "index" (mCons (mCB lenD (mCons (mFld "Setting" "promises" (mVar 0)) mNil)) mNil)) mSkip)
  (mSeq (mIfS (mTest (mOp inD (mVar 1) (mFld "Setting" "promises" (mVar 0)))) (mRet (mVar 0)) mSkip)
  (mRet (mFz (mMake "Setting" m_Setting_init (mCons (mFld "Setting" "houses" (mVar 0)) (mCons (mFld "Setting" "fails" (mVar 0)) (mCons (mFld "Setting" "readers" (mVar 0)) (mCons (mTup (mStar (mFld "Setting" "promises" (mVar 0)) (mCons (mVar 1) mNil))) mNil)))))))))
def m_Setting_joined : List D → RP := mFun 2 2 b_Setting_joined
def b_Setting_without_2 : MS := (mSeq (mIfS (mOr (mNot (mTest (mCall m_is_pair (mCons (mFld "Setting" "readers" (mVar 0)) (mCons (mVar 1) mNil))))) (mTest (mOp notInD (mVar 1) (mFld "Setting" "promises" (mVar 0))))) (mRaise1 "UnknownName" "given" (mCons (mVar 1) mNil)) mSkip)
  (mSeq (mSet 2 (mCB tupleD (mCons (mLc (mIter (mFld "Setting" "promises" (mVar 0))) (gV 3) (mTest (mOp neD (mVar 3) (mVar 1))) (mVar 3) [3]) mNil)))
  (mRet (mFz (mMake "Setting" m_Setting_init (mCons (mFld "Setting" "houses" (mVar 0)) (mCons (mFld "Setting" "fails" (mVar 0)) (mCons (mFld "Setting" "readers" (mVar 0)) (mCons (mVar 2) mNil)))))))))
def m_Setting_without_2 : List D → RP := mFun 4 2 b_Setting_without_2
def b_l_pair_right : MS := (mSeq (mSet 3 (mLst (mCons (mC .non) (mCons (mC (.str "a")) (mCons (mTup mNil) (mCons (mTup (mCons (mC (.str "a")) mNil)) (mCons (mLst (mCons (mC (.str "a")) (mCons (mC (.str "b")) mNil))) (mCons (mTup (mCons (mC (.int 3)) (mCons (mC (.int 4)) mNil))) (mCons (mFz mDNew) (mCons (mOp repTD (mTup (mCons (mOp getD (mOp getD (mVar 1) (mC (.int 2))) (mC (.int 0))) mNil)) (mC (.int 2))) (mCons (mTup (mCons (mOp getD (mOp getD (mVar 1) (mC (.int 0))) (mC (.int 0))) (mCons (mOp getD (mOp getD (mVar 1) (mC (.int 2))) (mC (.int 0))) mNil))) mNil)))))))))))
  (mSeq (mSet 4 (mCallI 0 m_l_one_of (mCons (mOp addD (mVar 3) (mLc (mRng (mCons (mC (.int 9)) mNil)) (gV 8) mYes (mTup (mCons (mCallI 0 m_l_one_of (mCons (mOp getD (mVar 1) (mC (.int 2))) mNil)) (mCons (mCallI 0 m_l_one_of (mCons (mOp getD (mVar 1) (mC (.int 2))) mNil)) mNil))) [8])) mNil)))
  (mSeq (mSet 5 (mAndV (mUn (isiD "tuple") (mVar 4)) (mAndV (mOp eqD (mCB lenD (mCons (mVar 4) mNil)) (mC (.int 2))) (mAndV (mOp inD (mOp getD (mVar 4) (mC (.int 0))) (mOp getD (mVar 1) (mC (.int 2)))) (mOp inD (mOp getD (mVar 4) (mC (.int 1))) (mOp getD (mVar 1) (mC (.int 2))))))))
  (mSeq (mSet 6 (mLst (mCons (mC (.str "promises")) (mCons (mCB reprED (mCons (mCB lenD (mCons (mOp getD (mVar 1) (mC (.int 3))) mNil)) mNil)) mNil))))
  (mSeq (mIfS (mAnd (mTest (mVar 5)) (mTest (mOp neD (mOp getD (mVar 4) (mC (.int 0))) (mOp getD (mVar 4) (mC (.int 1)))))) (mSet 6 (mLst (mCons (mC (.str "told")) (mCons (mStrI "Setting" m_Setting___str__ (mCall m_l_built (mCons (mOp addD (mSlice (mVar 1) mNoPart (mPart (mC (.int 3)))) (mLst (mCons (mOp addD (mOp getD (mVar 1) (mC (.int 3))) (mIf (mTest (mOp notInD (mVar 4) (mOp getD (mVar 1) (mC (.int 3))))) (mLst (mCons (mVar 4) mNil)) (mLst mNil))) mNil))) mNil))) mNil)))) mSkip)
  (mSeq (mSetO 7 (mLstO (mCons (mLam r_l_heard_4 (mMeth "Setting" "joined" m_Setting_joined (mVar 2) (mCons (mVar 4) mNil))) mNil)))
  (mSeq (mApp 7 (mLam r_l_heard_4 (mMethK "Setting" "joined" m_Setting_joined [0, 1] (mVar 2) (mCons (mVar 4) mNil))))
  (mSeq (mIfS (mTest (mOpL neD 7 (mLst (mCons (mVar 6) (mCons (mVar 6) mNil))))) (mRet (mC (.bl false))) mSkip)
  (mSeq (mSet 6 (mLst (mCons (mC (.str "name")) (mCons (mCB reprED (mCons (mVar 4) mNil)) mNil))))
  (mSeq (mIfS (mTest (mOp inXD (mVar 4) (mOp getD (mVar 1) (mC (.int 3))))) (mSet 6 (mLst (mCons (mC (.str "told")) (mCons (mStrI "Setting" m_Setting___str__ (mCall m_l_built (mCons (mOp addD (mSlice (mVar 1) mNoPart (mPart (mC (.int 3)))) (mLst (mCons (mLc (mIter (mOp getD (mVar 1) (mC (.int 3)))) (gV 9) (mTest (mOp neD (mVar 9) (mVar 4))) (mVar 9) [9]) mNil))) mNil))) mNil)))) mSkip)
  (mSeq (mSetO 7 (mLstO (mCons (mLam r_l_heard_4 (mMeth "Setting" "without" m_Setting_without_2 (mVar 2) (mCons (mVar 4) mNil))) mNil)))
  (mSeq (mApp 7 (mLam r_l_heard_4 (mMethK "Setting" "without" m_Setting_without_2 [0, 1] (mVar 2) (mCons (mVar 4) mNil))))
  (mRet (mOpL eqD 7 (mLst (mCons (mVar 6) (mCons (mVar 6) mNil)))))))))))))))))
def m_l_pair_right : O → List D → RI := mFunI 10 2 b_l_pair_right
def b_k05_l_right : MS := (mSeq (mSet 1 (mCallI 0 m_l_frame (mCons (mC (.int 6)) (mCons (mC (.int 4)) mNil))))
  (mSeq (mSet 2 (mCall m_l_built (mCons (mVar 1) mNil)))
  (mSeq (mSet 3 (mStrI "Setting" m_Setting___str__ (mVar 2)))
  (mSeq (mFor (mRng (mCons (mC (.int 8)) mNil)) (gV 4) (mSeq (mSet 5 (mStep (mCallI 0 m_l_some_of (mCons (mOp getD (mVar 1) (mC (.int 0))) mNil)) mNoPart mNoPart (mPart (mOp subD (mC (.int 1)) (mOp mulD (mC (.int 2)) (mCallI 0 m_l_dip (mCons (mC (.int 2)) mNil)))))))
  (mSeq (mSet 6 (mLst (mCons (mC .non) (mCons (mC (.str "p")) (mCons (mCB listD (mCons (mVar 5) mNil)) (mCons (mC (.int 3)) (mCons (mFz mDNew) (mCons (mOp addD (mCB tupleD (mCons (mVar 5) mNil)) (mTup (mCons (mC (.int 3)) mNil))) (mCons (mOp addD (mTup (mCons (mC (.str "nobody")) mNil)) (mCB tupleD (mCons (mVar 5) mNil))) (mCons (mOp repTD (mCB tupleD (mCons (mVar 5) mNil)) (mC (.int 2))) (mCons (mTup (mCons (mC (.str "w")) mNil)) mNil)))))))))))
  (mSeq (mSet 5 (mIf (mTest (mOp gtD (mCallI 0 m_l_dip (mCons (mC (.int 3)) mNil)) (mC (.int 0)))) (mCB tupleD (mCons (mVar 5) mNil)) (mCallI 0 m_l_one_of (mCons (mVar 6) mNil))))
  (mSeq (mSet 7 (mCall m_l_falls_due (mCons (mVar 1) (mCons (mVar 5) mNil))))
  (mSeq (mSetO 8 (mLstO (mCons (mLam r_l_heard_4 (mMeth "Setting" "can_fall" m_Setting_can_fall_2 (mVar 2) (mCons (mVar 5) mNil))) mNil)))
  (mSeq (mApp 8 (mLam r_l_heard_4 (mMethK "Setting" "can_fall" m_Setting_can_fall_2 [0, 1] (mVar 2) (mCons (mVar 5) mNil))))
  (mSeq (mIfS (mTest (mOpL neD 8 (mLst (mCons (mVar 7) (mCons (mVar 7) mNil))))) (mRet (mC (.bl false))) mSkip)
  (mIfS (mNot (mTest (mCallI 0 m_l_pair_right (mCons (mVar 1) (mCons (mVar 2) mNil))))) (mRet (mC (.bl false))) mSkip)))))))))
  (mRet (mOp eqD (mStrI "Setting" m_Setting___str__ (mVar 2)) (mVar 3)))))))
def m_k05_l_right : O → List D → RI := mFunI 9 0 b_k05_l_right
def b_k05_law : MS := (mRet (mCB allD (mCons (mLc (mRng (mCons (mCB max2D (mCons (mC (.int 2)) (mCons (mCB min2D (mCons (mCB lenD (mCons (mVar 0) mNil)) (mCons (mC (.int 6)) mNil))) mNil))) mNil)) (gV 1) mYes (mCallE m_k05_l_right (mCallO m_l_jar (mCons (mVar 0) (mCons (mVar 1) mNil))) mNil) [1]) mNil)))
def m_k05_law : List D → RP := mFun 2 1 b_k05_law
end Mi
namespace Law_k05
open PySem PySem.Spec PyProof.Rows L2 DD Mi
abbrev N_l_jar : List Str := ["_law_cells", "_law_turn", "_law_cell", "_law_mixed", "_law_each"]
abbrev N_Setting___str__ : List Str := ["self", "lines", "part", "reader", "pair"]
abbrev N_is_one_of : List Str := ["value", "names"]
abbrev N_may_fall : List Str := ["setting", "houses", "part", "house"]
abbrev N_Setting_can_fall : List Str := ["self", "houses", "index", "house"]
abbrev N_are_different : List Str := ["values", "names", "value"]
abbrev N_in_order : List Str := ["houses", "part", "spots", "house"]
abbrev N_fails_until : List Str := ["houses", "fails", "index", "value"]
abbrev N_is_name : List Str := ["value", "sign"]
abbrev N_is_client_name : List Str := ["value"]
abbrev N_names_until : List Str := ["values", "most", "taken", "index", "value"]
abbrev N_is_pair : List Str := ["readers", "value"]
abbrev N_promises_until : List Str := ["readers", "promises", "index", "value"]
abbrev N_Setting_init : List Str := ["self", "houses", "fails", "readers", "promises", "index"]
abbrev N_l_built : List Str := ["_law_frame_here"]
abbrev N_l_dip : List Str := ["_law_jar_here", "_law_top", "_law_digit"]
abbrev N_l_falls : List Str := ["_law_frame_here", "_law_lost", "_law_lot", "_law_place"]
abbrev N_l_falls_due : List Str := ["_law_frame_here", "_law_some", "_law_at", "_law_each"]
abbrev N_l_one_of : List Str := ["_law_jar_here", "_law_some"]
abbrev N_l_labels : List Str := ["_law_jar_here", "_law_menu", "_law_found", "_law_start", "_law_gap", "_law_k"]
abbrev N_l_some_of : List Str := ["_law_jar_here", "_law_things", "_law_thing"]
abbrev N_l_frame : List Str := ["_law_jar_here", "_law_most", "_law_readers_most", "_law_labels_here", "_law_many", "_law_places", "_law_askers", "_law_lots", "_law_pairs", "_law_turn", "_law_lot", "_law_thick", "_law_one", "_law_place", "_law_two"]
abbrev N_l_heard : List Str := ["_law_act", "_law_found", "e"]
abbrev N_Setting_joined : List Str := ["self", "promise"]
abbrev N_Setting_without : List Str := ["self", "promise", "rest", "each"]
abbrev N_l_pair_right : List Str := ["_law_jar_here", "_law_frame_here", "_law_mine", "_law_odd", "_law_pair", "_law_is_pair", "_law_due", "_law_told", "_law_k", "_law_each"]
abbrev N_l_right : List Str := ["_law_jar_here", "_law_frame_here", "_law_mine", "_law_page", "_law_turn", "_law_some", "_law_odd", "_law_due", "_law_told"]
abbrev N_law : List Str := ["_law_cells", "_law_turn"]
abbrev N_InvalidHouses_init : List Str := ["self", "index"]
abbrev N_InvalidPromises_init : List Str := ["self", "index"]
abbrev N_UnknownName_init : List Str := ["self", "given"]
end Law_k05
namespace Law_k05
open PySem PySem.Spec PyProof.Rows L2 DD Mi
section
variable {P : Program} {w : World} {K : PySem.W.Frag} {mg : Str → Option Value} {base : Heap}
theorem sc_l_jar : FnScope N_l_jar ["_law_cells", "_law_turn"] (defScope st_l_jar) := ⟨rfl, rfl, rfl, by decide +kernel, rfl, by decide +kernel, by decide +kernel⟩
theorem ok_l_jar {f : Addr} {fd : FuncData} (F : FunD K "_law_jar" "_law_jar" (defArgs st_l_jar) (defBody st_l_jar) (defScope st_l_jar) [] [] f fd) (g_len : mg "len" = none) (g_int : mg "int" = none) (g_abs : mg "abs" = none) : FnD P w K mg base 1 f (spP K 2 m_l_jar) := by
  have sc := sc_l_jar
  exact fn_pure (k := 0) (m := b_l_jar) F sc_l_jar (F.bindsN fun _ _ _ _ _ _ us hl => match us, hl with | [_, _], _ => rfl) fun cdv A outer s H E hr tk ps => ⟨_,
    (pdb_cons (pds_set (i := 2) sc.nd rfl (.inl rfl) (pd_if (pdt_cmp op_lt opd_lt (dv 1) (pd_callB call_len cd_len rfl g_len bt_len (pda_cons (dv 0) pda_nil))) (pd_ix ix_getD opd_get (dv 0) (dv 1)) (pd_op op_addD opd_add (pd_op op_mul opd_mul pd_int (dv 1)) pd_int)))
    (pdb_cons (pds_set (i := 3) sc.nd rfl (.inl rfl) (pd_op op_addD opd_add pd_int (pd_op op_mul opd_mul pd_int (dv 1))))
    (pdb_cons (pds_for (wk := false) ps rfl (pdi_seq (pd_op op_addD opd_add (pd_slice (dv 0) pdp_none (pdp_some pd_int)) (pd_lst (pda_cons (dv 2) pda_nil)))) (pdg_name (i := 4) sc.nd rfl (.inl rfl)) (pdb_one (pds_set (i := 3) sc.nd rfl (.inl rfl) (pd_op op_mod opd_mod (pd_callTy call_int1 cd_int rfl g_int bt_int (pda_cons (pd_op op_addD opd_add (pd_op op_mul opd_mul (dv 3) pd_int) (dv 4)) pda_nil)) pd_int))))
    (pdb_one (pds_retO (pdo_lst (pda_cons (pd_if (pdt_w (pdw_or (pdt_cmp op_lt opd_lt (dv 2) pd_int) (pdw_or1 (pdt_cmp op_ge opd_ge (dv 2) (pd_op op_pow opd_pow pd_int pd_int))))) (pd_callB call_abs cd_abs rfl g_abs bt_abs (pda_cons (dv 2) pda_nil)) pd_int) (pda_cons (dv 3) (pda_cons pd_int pda_nil)))))))))⟩
theorem sc_Setting___str__ : FnScope N_Setting___str__ ["self"] (defScope st_Setting___str__) := ⟨rfl, rfl, rfl, by decide +kernel, rfl, by decide +kernel, by decide +kernel⟩
theorem ok_Setting___str__ {f : Addr} {fd : FuncData} (F : FunD K "__str__" "Setting.__str__" (defArgs st_Setting___str__) (defBody st_Setting___str__) (defScope st_Setting___str__) [] [] f fd) (c_Setting : Cls K (cadr K "Setting")) (n_Setting_houses : NoAttr K (cadr K "Setting") "houses") (n_Setting_fails : NoAttr K (cadr K "Setting") "fails") (n_Setting_readers : NoAttr K (cadr K "Setting") "readers") (n_Setting_promises : NoAttr K (cadr K "Setting") "promises") : FnD P w K mg base 1 f (spP K 1 m_Setting___str__) := by
  have sc := sc_Setting___str__
  exact fn_pure (k := 0) (m := b_Setting___str__) F sc_Setting___str__ (F.bindsN fun _ _ _ _ _ _ us hl => match us, hl with | [_], _ => rfl) fun cdv A outer s H E hr tk ps => ⟨_,
    (pdb_cons (pds_setO (i := 1) sc.nd rfl (.inl rfl) (pdo_lst (pda_cons (pd_join pd_str (pd_lst (pda_cons pd_str (pda_star (pd_fld c_Setting n_Setting_houses (dv 0)) pda_nil)))) pda_nil)))
    (pdb_cons (pds_extend (i := 1) (pnm 1) (pd_lc (wk := false) (own := [("part", 2)]) (g := (gName 2)) (tt := tYes) (te := (tM1 (rJoin K) (tC (.str " ")) (tLst (tCons (tC (.str "fail")) (StX.tStar K (tVar 2) tNil))))) rfl sc.nd (pdi_seq (pd_fld c_Setting n_Setting_fails (dv 0))) (blkOk_by (own := [("part", 2)]) (N := N_Setting___str__) (sc := defScope st_Setting___str__) (by decide +kernel)) (fun _ _ _ _ _ => (pdg_name (i := 2) sc.nd rfl (.inl rfl))) (fun _ _ _ _ _ => pdts_nil) (fun _ _ _ _ _ => (pd_join pd_str (pd_lst (pda_cons pd_str (pda_star (dv 2) pda_nil)))))))
    (pdb_cons (pds_extend (i := 1) (pnm 1) (pd_lc (wk := false) (own := [("reader", 3)]) (g := (gName 3)) (tt := tYes) (te := (fun σ H Q => tJs [(tC (.str "reader ")), (tFmt (tVar 3))] Str.empty σ H fun out H1 => Q (.str out) H1)) rfl sc.nd (pdi_seq (pd_fld c_Setting n_Setting_readers (dv 0))) (blkOk_by (own := [("reader", 3)]) (N := N_Setting___str__) (sc := defScope st_Setting___str__) (by decide +kernel)) (fun _ _ _ _ _ => (pdg_name (i := 3) sc.nd rfl (.inl rfl))) (fun _ _ _ _ _ => pdts_nil) (fun _ _ _ _ _ => (pd_joined (pdj_cons pd_str (pdj_cons (pd_fmt (dv 3)) pdj_nil))))))
    (pdb_cons (pds_extend (i := 1) (pnm 1) (pd_lc (wk := false) (own := [("pair", 4)]) (g := (gName 4)) (tt := tYes) (te := (tM1 (rJoin K) (tC (.str " ")) (tLst (tCons (tC (.str "promise")) (StX.tStar K (tVar 4) tNil))))) rfl sc.nd (pdi_seq (pd_fld c_Setting n_Setting_promises (dv 0))) (blkOk_by (own := [("pair", 4)]) (N := N_Setting___str__) (sc := defScope st_Setting___str__) (by decide +kernel)) (fun _ _ _ _ _ => (pdg_name (i := 4) sc.nd rfl (.inl rfl))) (fun _ _ _ _ _ => pdts_nil) (fun _ _ _ _ _ => (pd_join pd_str (pd_lst (pda_cons pd_str (pda_star (dv 4) pda_nil)))))))
    (pdb_one (pds_frz (i := 1) (pds_ret (pd_join pd_str (dv 1)))))))))⟩
theorem sc_is_one_of : FnScope N_is_one_of ["value", "names"] (defScope st_is_one_of) := ⟨rfl, rfl, rfl, by decide +kernel, rfl, by decide +kernel, by decide +kernel⟩
theorem ok_is_one_of {f : Addr} {fd : FuncData} (F : FunD K "is_one_of" "is_one_of" (defArgs st_is_one_of) (defBody st_is_one_of) (defScope st_is_one_of) [] [] f fd) (g_isinstance : mg "isinstance" = none) (g_str : mg "str" = none) : FnD P w K mg base 1 f (spP K 2 m_is_one_of) := by
  have sc := sc_is_one_of
  exact fn_pure (k := 0) (m := b_is_one_of) F sc_is_one_of (F.bindsN fun _ _ _ _ _ _ us hl => match us, hl with | [_, _], _ => rfl) fun cdv A outer s H E hr tk ps => ⟨_,
    (pdb_one (pds_ret (pd_and (pd_isi kb_str rfl g_isinstance rfl g_str bt_str (dv 0)) (pd_one (pd_cmp (op_inB (u65 hr)) opd_in (dv 0) (dv 1))))))⟩
theorem sc_may_fall : FnScope N_may_fall ["setting", "houses"] (defScope st_may_fall) := ⟨rfl, rfl, rfl, by decide +kernel, rfl, by decide +kernel, by decide +kernel⟩
theorem ok_may_fall {f : Addr} {fd : FuncData} (F : FunD K "may_fall" "may_fall" (defArgs st_may_fall) (defBody st_may_fall) (defScope st_may_fall) [] [] f fd) (g_any : mg "any" = none) (c_Setting : Cls K (cadr K "Setting")) (n_Setting_fails : NoAttr K (cadr K "Setting") "fails") (g_all : mg "all" = none) : FnD P w K mg base 1 f (spP K 2 m_may_fall) := by
  have sc := sc_may_fall
  exact fn_pure (k := 0) (m := b_may_fall) F sc_may_fall (F.bindsN fun _ _ _ _ _ _ us hl => match us, hl with | [_, _], _ => rfl) fun cdv A outer s H E hr tk ps => ⟨_,
    (pdb_one (pds_ret (pd_callB (cr_any rfl) cd_any rfl g_any bt_any (pda_cons (pd_lc (wk := false) (own := [("part", 2)]) (g := (gName 2)) (tt := tYes) (te := (tCB (rAll K) (tCons (tLc (iSeqD K (tVar 1)) (gName 3) tYes (tOp (rInB K) (tVar 3) (tVar 2)) [3]) tNil))) rfl sc.nd (pdi_seq (pd_fld c_Setting n_Setting_fails (dv 0))) (blkOk_by (own := [("part", 2)]) (N := N_may_fall) (sc := defScope st_may_fall) (by decide +kernel)) (fun _ _ _ _ _ => (pdg_name (i := 2) sc.nd rfl (.inr rfl))) (fun _ _ _ _ _ => pdts_nil) (fun _ _ _ _ _ => (pd_callB (cr_all rfl) cd_all rfl g_all bt_all (pda_cons (pd_lc (wk := false) (own := [("house", 3)]) (g := (gName 3)) (tt := tYes) (te := (tOp (rInB K) (tVar 3) (tVar 2))) rfl sc.nd (pdi_seq (dv 1)) (blkOk_by (own := [("house", 3)]) (by kernel_rfl)) (fun _ _ _ _ _ => (pdg_name (i := 3) sc.nd rfl (.inl rfl))) (fun _ _ _ _ _ => pdts_nil) (fun _ _ _ _ _ => (pd_cmp (op_inB (u65 hr)) opd_in (dv 3) (dv 2)))) pda_nil)))) pda_nil))))⟩
theorem sc_Setting_can_fall : FnScope N_Setting_can_fall ["self", "houses"] (defScope st_Setting_can_fall) := ⟨rfl, rfl, rfl, by decide +kernel, rfl, by decide +kernel, by decide +kernel⟩
theorem okG_Setting_can_fall {f : Addr} {fd : FuncData} (F : FunD K "can_fall" "Setting.can_fall" (defArgs st_Setting_can_fall) (defBody st_Setting_can_fall) (defScope st_Setting_can_fall) [] [] f fd) (g_isinstance : mg "isinstance" = none) (g_tuple : mg "tuple" = none) (xf_InvalidHouses : ExF P w K mg base "InvalidHouses" "index") (gx_InvalidHouses : mg "InvalidHouses" = some (.ref (cadr K "InvalidHouses"))) (g_enumerate : mg "enumerate" = none) (G_is_one_of : DefP P w K mg base 1 "is_one_of" 2 m_is_one_of) (c_Setting : Cls K (cadr K "Setting")) (n_Setting_houses : NoAttr K (cadr K "Setting") "houses") (G_may_fall : DefP P w K mg base 1 "may_fall" 2 m_may_fall) : FnG P w K mg base (L2.CX P w) 3 f fd ["self", "houses"] (spP K 2 m_Setting_can_fall_2) := by
  have sc := sc_Setting_can_fall
  exact fnG_pure (P := P) (w := w) (base := base) (mg := mg) (N := N_Setting_can_fall) (ps := ["self", "houses"]) (k := 2) (m := b_Setting_can_fall_2) F sc_Setting_can_fall fun cdv A outer s H E hr tk ps => ⟨_,
    (pdb_cons (pds_if (pdt_not (pdt_val (pd_isi kb_tuple rfl g_isinstance rfl g_tuple bt_tuple (dv 1)))) (pdb_one (pds_raise1 xf_InvalidHouses gx_InvalidHouses (hr.mono (by decide)) rfl tk rfl (pda_cons pd_non pda_nil))) pdb_nil)
    (pdb_cons (pds_for (wk := true) ps rfl (pdi_enum rfl g_enumerate (pda_cons (dv 1) pda_nil)) (pdg_tup rfl (pdgs_cons (pdg_name (i := 2) sc.nd rfl (.inl rfl)) (pdgs_cons (pdg_name (i := 3) sc.nd rfl (.inl rfl)) pdgs_nil))) (pdb_one (pds_if (pdt_w (pdw_or (pdt_not (pdt_val (pd_call G_is_one_of (hr.mono (by decide)) rfl tk (argN_cons (argN_cons argN_nil)) (pda_cons (dv 3) (pda_cons (pd_fld c_Setting n_Setting_houses (dv 0)) pda_nil))))) (pdw_or1 (pdt_cmp (op_inB (u65 hr)) opd_in (dv 3) (pd_slice (dv 1) pdp_none (pdp_some (dv 2))))))) (pdb_one (pds_raise1 xf_InvalidHouses gx_InvalidHouses (hr.mono (by decide)) rfl tk rfl (pda_cons (dv 2) pda_nil))) pdb_nil)))
    (pdb_one (pds_ret (pd_call G_may_fall (hr.mono (by decide)) rfl tk (argN_cons (argN_cons argN_nil)) (pda_cons (dv 0) (pda_cons (dv 1) pda_nil)))))))⟩
theorem ok_Setting_can_fall {f : Addr} {fd : FuncData} (F : FunD K "can_fall" "Setting.can_fall" (defArgs st_Setting_can_fall) (defBody st_Setting_can_fall) (defScope st_Setting_can_fall) [] [] f fd) (g_isinstance : mg "isinstance" = none) (g_tuple : mg "tuple" = none) (xf_InvalidHouses : ExF P w K mg base "InvalidHouses" "index") (gx_InvalidHouses : mg "InvalidHouses" = some (.ref (cadr K "InvalidHouses"))) (g_enumerate : mg "enumerate" = none) (G_is_one_of : DefP P w K mg base 1 "is_one_of" 2 m_is_one_of) (c_Setting : Cls K (cadr K "Setting")) (n_Setting_houses : NoAttr K (cadr K "Setting") "houses") (G_may_fall : DefP P w K mg base 1 "may_fall" 2 m_may_fall) : FnD P w K mg base 3 f (spP K 2 m_Setting_can_fall_2) := ⟨fd, ["self", "houses"], F.kp, F.bindsN fun _ _ _ _ _ _ us hl => match us, hl with | [_, _], _ => rfl, okG_Setting_can_fall F g_isinstance g_tuple xf_InvalidHouses gx_InvalidHouses g_enumerate G_is_one_of c_Setting n_Setting_houses G_may_fall⟩
theorem sc_are_different : FnScope N_are_different ["values", "names"] (defScope st_are_different) := ⟨rfl, rfl, rfl, by decide +kernel, rfl, by decide +kernel, by decide +kernel⟩
theorem ok_are_different {f : Addr} {fd : FuncData} (F : FunD K "are_different" "are_different" (defArgs st_are_different) (defBody st_are_different) (defScope st_are_different) [] [] f fd) (g_isinstance : mg "isinstance" = none) (g_tuple : mg "tuple" = none) (g_all : mg "all" = none) (G_is_one_of : DefP P w K mg base 1 "is_one_of" 2 m_is_one_of) (g_len : mg "len" = none) (g_set : mg "set" = none) : FnD P w K mg base 2 f (spP K 2 m_are_different) := by
  have sc := sc_are_different
  exact fn_pure (k := 1) (m := b_are_different) F sc_are_different (F.bindsN fun _ _ _ _ _ _ us hl => match us, hl with | [_, _], _ => rfl) fun cdv A outer s H E hr tk ps => ⟨_,
    (pdb_cons (pds_if (pdt_w (pdw_or (pdt_not (pdt_val (pd_isi kb_tuple rfl g_isinstance rfl g_tuple bt_tuple (dv 0)))) (pdw_or1 (pdt_not (pdt_val (pd_callB (cr_all rfl) cd_all rfl g_all bt_all (pda_cons (pd_lc (wk := false) (own := [("value", 2)]) (g := (gName 2)) (tt := tYes) (te := (tCallS (spP K 2 m_is_one_of) (WE W0) (tCons (tVar 2) (tCons (tVar 1) tNil)))) rfl sc.nd (pdi_seq (dv 0)) (blkOk_by (own := [("value", 2)]) (N := N_are_different) (sc := defScope st_are_different) (by decide +kernel)) (fun _ _ _ _ _ => (pdg_name (i := 2) sc.nd rfl (.inl rfl))) (fun _ _ _ _ _ => pdts_nil) (fun _ _ _ _ _ => (pd_call G_is_one_of (hr.mono (by decide)) rfl tk0 (argN_cons (argN_cons argN_nil)) (pda_cons (dv 2) (pda_cons (dv 1) pda_nil))))) pda_nil))))))) (pdb_one (pds_ret pd_bl)) pdb_nil)
    (pdb_one (pds_ret (pd_cmp (op_eqD (u64 hr)) opd_eq (pd_lenSet rfl rfl g_len rfl g_set (dv 0)) (pd_callB call_len cd_len rfl g_len bt_len (pda_cons (dv 0) pda_nil))))))⟩
end
end Law_k05
namespace Law_k05
open PySem PySem.Spec PyProof.Rows L2 DD Mi
section
variable {P : Program} {w : World} {K : PySem.W.Frag} {mg : Str → Option Value} {base : Heap}
theorem sc_in_order : FnScope N_in_order ["houses", "part"] (defScope st_in_order) := ⟨rfl, rfl, rfl, by decide +kernel, rfl, by decide +kernel, by decide +kernel⟩
theorem ok_in_order {f : Addr} {fd : FuncData} (F : FunD K "in_order" "in_order" (defArgs st_in_order) (defBody st_in_order) (defScope st_in_order) [] [] f fd) (g_sorted : mg "sorted" = none) : FnD P w K mg base 1 f (spP K 2 m_in_order) := by
  have sc := sc_in_order
  exact fn_pure (k := 0) (m := b_in_order) F sc_in_order (F.bindsN fun _ _ _ _ _ _ us hl => match us, hl with | [_, _], _ => rfl) fun cdv A outer s H E hr tk ps => ⟨_,
    (pdb_cons (pds_setLc (i := 2) (wk := false) (own := [("house", 3)]) (g := (gName 3)) (tt := tYes) (te := (tBME K "tuple" (rTupIx K) (tVar 0) (tCons (tVar 3) tNil))) rfl sc.nd rfl rfl (pdi_seq (dv 1)) (blkOk_by (own := [("house", 3)]) (N := N_in_order) (sc := defScope st_in_order) (by decide +kernel)) (fun _ _ _ _ _ => (pdg_name (i := 3) sc.nd rfl (.inl rfl))) (fun _ _ _ _ _ => pdts_nil) (fun _ _ _ _ _ => (pd_index (dv 0) (dv 3))))
    (pdb_one (pds_ret (pd_cmp (op_eqD (u64 hr)) opd_eq (dv 2) (pd_callB cr_sorted cd_sorted rfl g_sorted bt_sorted (pda_cons (dv 2) pda_nil))))))⟩
theorem sc_fails_until : FnScope N_fails_until ["houses", "fails"] (defScope st_fails_until) := ⟨rfl, rfl, rfl, by decide +kernel, rfl, by decide +kernel, by decide +kernel⟩
theorem ok_fails_until {f : Addr} {fd : FuncData} (F : FunD K "fails_until" "fails_until" (defArgs st_fails_until) (defBody st_fails_until) (defScope st_fails_until) [] [] f fd) (g_enumerate : mg "enumerate" = none) {t_MOST_FAILS : Tok} (g_MOST_FAILS : mg "MOST_FAILS" = some (.int 8 t_MOST_FAILS)) (G_are_different : DefP P w K mg base 2 "are_different" 2 m_are_different) (G_in_order : DefP P w K mg base 1 "in_order" 2 m_in_order) : FnD P w K mg base 3 f (spP K 2 m_fails_until) := by
  have sc := sc_fails_until
  exact fn_pure (k := 2) (m := b_fails_until) F sc_fails_until (F.bindsN fun _ _ _ _ _ _ us hl => match us, hl with | [_, _], _ => rfl) fun cdv A outer s H E hr tk ps => ⟨_,
    (pdb_cons (pds_for (wk := true) ps rfl (pdi_enum rfl g_enumerate (pda_cons (dv 1) pda_nil)) (pdg_tup rfl (pdgs_cons (pdg_name (i := 2) sc.nd rfl (.inl rfl)) (pdgs_cons (pdg_name (i := 3) sc.nd rfl (.inl rfl)) pdgs_nil))) (pdb_cons (pds_if (pdt_w (pdw_or (pdt_cmp op_ge opd_ge (dv 2) (pd_globi rfl g_MOST_FAILS)) (pdw_or1 (pdt_not (pdt_val (pd_call G_are_different (hr.mono (by decide)) rfl tk (argN_cons (argN_cons argN_nil)) (pda_cons (dv 3) (pda_cons (dv 0) pda_nil)))))))) (pdb_one (pds_ret (dv 2))) pdb_nil)
    (pdb_one (pds_if (pdt_w (pdw_or (pdt_not (pdt_val (pd_call G_in_order (hr.mono (by decide)) rfl tk (argN_cons (argN_cons argN_nil)) (pda_cons (dv 0) (pda_cons (dv 3) pda_nil))))) (pdw_or1 (pdt_cmp (op_inB (u65 hr)) opd_in (dv 3) (pd_slice (dv 1) pdp_none (pdp_some (dv 2))))))) (pdb_one (pds_ret (dv 2))) pdb_nil))))
    (pdb_one (pds_ret pd_non)))⟩
theorem sc_is_name : FnScope N_is_name ["value"] (defScope st_is_name) := ⟨rfl, rfl, rfl, by decide +kernel, rfl, by decide +kernel, by decide +kernel⟩
theorem ok_is_name {f : Addr} {fd : FuncData} (F : FunD K "is_name" "is_name" (defArgs st_is_name) (defBody st_is_name) (defScope st_is_name) [] [] f fd) (g_isinstance : mg "isinstance" = none) (g_str : mg "str" = none) (g_len : mg "len" = none) {t_MOST_LETTERS : Tok} (g_MOST_LETTERS : mg "MOST_LETTERS" = some (.int 8 t_MOST_LETTERS)) (g_all : mg "all" = none) {t_LETTERS : Tok} (g_LETTERS : mg "LETTERS" = some (.str "abcdefghijklmnopqrstuvwxyz" t_LETTERS)) : FnD P w K mg base 1 f (spP K 1 m_is_name) := by
  have sc := sc_is_name
  exact fn_pure (k := 0) (m := b_is_name) F sc_is_name (F.bindsN fun _ _ _ _ _ _ us hl => match us, hl with | [_], _ => rfl) fun cdv A outer s H E hr tk ps => ⟨_,
    (pdb_one (pds_ret (pd_and (pd_isi kb_str rfl g_isinstance rfl g_str bt_str (dv 0)) (pd_and (pd_chain op_le opd_le op_le opd_le pd_int (pd_callB call_len cd_len rfl g_len bt_len (pda_cons (dv 0) pda_nil)) (pd_globi rfl g_MOST_LETTERS)) (pd_one (pd_callB (cr_all rfl) cd_all rfl g_all bt_all (pda_cons (pd_lc (wk := false) (own := [("sign", 1)]) (g := (gName 1)) (tt := tYes) (te := (tOp (rInB K) (tVar 1) (tC (.str "abcdefghijklmnopqrstuvwxyz")))) rfl sc.nd (pdi_seq (dv 0)) (blkOk_by (own := [("sign", 1)]) (N := N_is_name) (sc := defScope st_is_name) (by decide +kernel)) (fun _ _ _ _ _ => (pdg_name (i := 1) sc.nd rfl (.inl rfl))) (fun _ _ _ _ _ => pdts_nil) (fun _ _ _ _ _ => (pd_cmp (op_inB (u65 hr)) opd_in (dv 1) (pd_globs rfl g_LETTERS)))) pda_nil)))))))⟩
theorem sc_is_client_name : FnScope N_is_client_name ["value"] (defScope st_is_client_name) := ⟨rfl, rfl, rfl, by decide +kernel, rfl, by decide +kernel, by decide +kernel⟩
theorem ok_is_client_name {f : Addr} {fd : FuncData} (F : FunD K "is_client_name" "is_client_name" (defArgs st_is_client_name) (defBody st_is_client_name) (defScope st_is_client_name) [] [] f fd) (G_is_name : DefP P w K mg base 1 "is_name" 1 m_is_name) {t_WRITER : Tok} (g_WRITER : mg "WRITER" = some (.str "w" t_WRITER)) : FnD P w K mg base 2 f (spP K 1 m_is_client_name) := by
  have sc := sc_is_client_name
  exact fn_pure (k := 1) (m := b_is_client_name) F sc_is_client_name (F.bindsN fun _ _ _ _ _ _ us hl => match us, hl with | [_], _ => rfl) fun cdv A outer s H E hr tk ps => ⟨_,
    (pdb_one (pds_ret (pd_and (pd_call G_is_name (hr.mono (by decide)) rfl tk (argN_cons argN_nil) (pda_cons (dv 0) pda_nil)) (pd_one (pd_cmp (op_neD (u64 hr)) opd_ne (dv 0) (pd_globs rfl g_WRITER))))))⟩
theorem sc_names_until : FnScope N_names_until ["values", "most", "taken"] (defScope st_names_until) := ⟨rfl, rfl, rfl, by decide +kernel, rfl, by decide +kernel, by decide +kernel⟩
theorem ok_names_until {f : Addr} {fd : FuncData} (F : FunD K "names_until" "names_until" (defArgs st_names_until) (defBody st_names_until) (defScope st_names_until) [] [] f fd) (g_enumerate : mg "enumerate" = none) (G_is_client_name : DefP P w K mg base 2 "is_client_name" 1 m_is_client_name) : FnD P w K mg base 3 f (spP K 3 m_names_until) := by
  have sc := sc_names_until
  exact fn_pure (k := 2) (m := b_names_until) F sc_names_until (F.bindsN fun _ _ _ _ _ _ us hl => match us, hl with | [_, _, _], _ => rfl) fun cdv A outer s H E hr tk ps => ⟨_,
    (pdb_cons (pds_for (wk := true) ps rfl (pdi_enum rfl g_enumerate (pda_cons (dv 0) pda_nil)) (pdg_tup rfl (pdgs_cons (pdg_name (i := 3) sc.nd rfl (.inl rfl)) (pdgs_cons (pdg_name (i := 4) sc.nd rfl (.inl rfl)) pdgs_nil))) (pdb_one (pds_if (pdt_w (pdw_or (pdt_cmp op_ge opd_ge (dv 3) (dv 1)) (pdw_or (pdt_not (pdt_val (pd_call G_is_client_name (hr.mono (by decide)) rfl tk (argN_cons argN_nil) (pda_cons (dv 4) pda_nil)))) (pdw_or (pdt_cmp (op_inB (u65 hr)) opd_in (dv 4) (pd_slice (dv 0) pdp_none (pdp_some (dv 3)))) (pdw_or1 (pdt_cmp (op_inB (u65 hr)) opd_in (dv 4) (dv 2))))))) (pdb_one (pds_ret (dv 3))) pdb_nil)))
    (pdb_one (pds_ret pd_non)))⟩
theorem sc_is_pair : FnScope N_is_pair ["readers", "value"] (defScope st_is_pair) := ⟨rfl, rfl, rfl, by decide +kernel, rfl, by decide +kernel, by decide +kernel⟩
theorem ok_is_pair {f : Addr} {fd : FuncData} (F : FunD K "is_pair" "is_pair" (defArgs st_is_pair) (defBody st_is_pair) (defScope st_is_pair) [] [] f fd) (G_are_different : DefP P w K mg base 2 "are_different" 2 m_are_different) (g_len : mg "len" = none) : FnD P w K mg base 3 f (spP K 2 m_is_pair) := by
  have sc := sc_is_pair
  exact fn_pure (k := 2) (m := b_is_pair) F sc_is_pair (F.bindsN fun _ _ _ _ _ _ us hl => match us, hl with | [_, _], _ => rfl) fun cdv A outer s H E hr tk ps => ⟨_,
    (pdb_one (pds_ret (pd_and (pd_call G_are_different (hr.mono (by decide)) rfl tk (argN_cons (argN_cons argN_nil)) (pda_cons (dv 1) (pda_cons (dv 0) pda_nil))) (pd_one (pd_cmp (op_eqD (u64 hr)) opd_eq (pd_callB call_len cd_len rfl g_len bt_len (pda_cons (dv 1) pda_nil)) pd_int)))))⟩
theorem sc_promises_until : FnScope N_promises_until ["readers", "promises"] (defScope st_promises_until) := ⟨rfl, rfl, rfl, by decide +kernel, rfl, by decide +kernel, by decide +kernel⟩
theorem ok_promises_until {f : Addr} {fd : FuncData} (F : FunD K "promises_until" "promises_until" (defArgs st_promises_until) (defBody st_promises_until) (defScope st_promises_until) [] [] f fd) (g_enumerate : mg "enumerate" = none) (G_is_pair : DefP P w K mg base 3 "is_pair" 2 m_is_pair) : FnD P w K mg base 4 f (spP K 2 m_promises_until) := by
  have sc := sc_promises_until
  exact fn_pure (k := 3) (m := b_promises_until) F sc_promises_until (F.bindsN fun _ _ _ _ _ _ us hl => match us, hl with | [_, _], _ => rfl) fun cdv A outer s H E hr tk ps => ⟨_,
    (pdb_cons (pds_for (wk := true) ps rfl (pdi_enum rfl g_enumerate (pda_cons (dv 1) pda_nil)) (pdg_tup rfl (pdgs_cons (pdg_name (i := 2) sc.nd rfl (.inl rfl)) (pdgs_cons (pdg_name (i := 3) sc.nd rfl (.inl rfl)) pdgs_nil))) (pdb_one (pds_if (pdt_w (pdw_or (pdt_not (pdt_val (pd_call G_is_pair (hr.mono (by decide)) rfl tk (argN_cons (argN_cons argN_nil)) (pda_cons (dv 0) (pda_cons (dv 3) pda_nil))))) (pdw_or1 (pdt_cmp (op_inB (u65 hr)) opd_in (dv 3) (pd_slice (dv 1) pdp_none (pdp_some (dv 2))))))) (pdb_one (pds_ret (dv 2))) pdb_nil)))
    (pdb_one (pds_ret pd_non)))⟩
theorem sc_Setting_init : FnScope N_Setting_init ["self", "houses", "fails", "readers", "promises"] (defScope st_Setting_init) := ⟨rfl, rfl, rfl, by decide +kernel, rfl, by decide +kernel, by decide +kernel⟩
theorem ok_Setting_init {f : Addr} {fd : FuncData} (F : FunD K "__init__" "Setting.__init__" (defArgs st_Setting_init) (defBody st_Setting_init) (defScope st_Setting_init) [] [] f fd) (g_isinstance : mg "isinstance" = none) (g_tuple : mg "tuple" = none) (G_names_until : DefP P w K mg base 3 "names_until" 3 m_names_until) {t_MOST_HOUSES : Tok} (g_MOST_HOUSES : mg "MOST_HOUSES" = some (.int 8 t_MOST_HOUSES)) (G_fails_until : DefP P w K mg base 3 "fails_until" 2 m_fails_until) {t_MOST_READERS : Tok} (g_MOST_READERS : mg "MOST_READERS" = some (.int 5 t_MOST_READERS)) (G_promises_until : DefP P w K mg base 4 "promises_until" 2 m_promises_until) (c_Setting : Cls K (cadr K "Setting")) (n_Setting_houses : NoAttr K (cadr K "Setting") "houses") (n_Setting_fails : NoAttr K (cadr K "Setting") "fails") (n_Setting_readers : NoAttr K (cadr K "Setting") "readers") (n_Setting_promises : NoAttr K (cadr K "Setting") "promises") : FnD P w K mg base 5 f (spI K 4 m_Setting_init) := by
  have sc := sc_Setting_init
  exact fn_io (k := 4) (m := b_Setting_init) F sc_Setting_init (F.bindsN fun _ _ _ _ _ _ us hl => match us, hl with | [_, _, _, _, _], _ => rfl) fun cdv A outer s H E hr tk ps => ⟨_,
    (pdb_cons (pds_if (pdt_w (pdw_or (pdt_not (pdt_val (pd_isi kb_tuple rfl g_isinstance rfl g_tuple bt_tuple (dv 1)))) (pdw_or1 (pdt_cmp (op_eqD (u64 hr)) opd_eq (dv 1) (pd_tup pda_nil))))) (pdb_one pds_dead) pdb_nil)
    (pdb_cons (pds_set (i := 5) sc.nd rfl (.inl rfl) (pd_call G_names_until (hr.mono (by decide)) rfl tk (argN_cons (argN_cons (argN_cons argN_nil))) (pda_cons (dv 1) (pda_cons (pd_globi rfl g_MOST_HOUSES) (pda_cons (pd_tup pda_nil) pda_nil)))))
    (pdb_cons (pds_if (pdt_cmp op_notN opd_isNot (dv 5) pd_non) (pdb_one pds_dead) pdb_nil)
    (pdb_cons (pds_if (pdt_w (pdw_or (pdt_not (pdt_val (pd_isi kb_tuple rfl g_isinstance rfl g_tuple bt_tuple (dv 2)))) (pdw_or1 (pdt_cmp (op_eqD (u64 hr)) opd_eq (dv 2) (pd_tup pda_nil))))) (pdb_one pds_dead) pdb_nil)
    (pdb_cons (pds_set (i := 5) sc.nd rfl (.inl rfl) (pd_call G_fails_until (hr.mono (by decide)) rfl tk (argN_cons (argN_cons argN_nil)) (pda_cons (dv 1) (pda_cons (dv 2) pda_nil))))
    (pdb_cons (pds_if (pdt_cmp op_notN opd_isNot (dv 5) pd_non) (pdb_one pds_dead) pdb_nil)
    (pdb_cons (pds_if (pdt_w (pdw_or (pdt_not (pdt_val (pd_isi kb_tuple rfl g_isinstance rfl g_tuple bt_tuple (dv 3)))) (pdw_or1 (pdt_cmp (op_eqD (u64 hr)) opd_eq (dv 3) (pd_tup pda_nil))))) (pdb_one pds_dead) pdb_nil)
    (pdb_cons (pds_set (i := 5) sc.nd rfl (.inl rfl) (pd_call G_names_until (hr.mono (by decide)) rfl tk (argN_cons (argN_cons (argN_cons argN_nil))) (pda_cons (dv 3) (pda_cons (pd_globi rfl g_MOST_READERS) (pda_cons (dv 1) pda_nil)))))
    (pdb_cons (pds_if (pdt_cmp op_notN opd_isNot (dv 5) pd_non) (pdb_one pds_dead) pdb_nil)
    (pdb_cons (pds_if (pdt_not (pdt_val (pd_isi kb_tuple rfl g_isinstance rfl g_tuple bt_tuple (dv 4)))) (pdb_one pds_dead) pdb_nil)
    (pdb_cons (pds_set (i := 5) sc.nd rfl (.inl rfl) (pd_call G_promises_until (hr.mono (by decide)) rfl tk (argN_cons (argN_cons argN_nil)) (pda_cons (dv 3) (pda_cons (dv 4) pda_nil))))
    (pdb_cons (pds_if (pdt_cmp op_notN opd_isNot (dv 5) pd_non) (pdb_one pds_dead) pdb_nil)
    (pdb_cons (pds_setA (i := 0) c_Setting n_Setting_houses (pnm 0) (dv 1))
    (pdb_cons (pds_setA (i := 0) c_Setting n_Setting_fails (pnm 0) (dv 2))
    (pdb_cons (pds_setA (i := 0) c_Setting n_Setting_readers (pnm 0) (dv 3))
    (pdb_one (pds_setA (i := 0) c_Setting n_Setting_promises (pnm 0) (dv 4))))))))))))))))))⟩
end
end Law_k05
namespace Law_k05
open PySem PySem.Spec PyProof.Rows L2 DD Mi
section
variable {P : Program} {w : World} {K : PySem.W.Frag} {mg : Str → Option Value} {base : Heap}
theorem sc_l_built : FnScope N_l_built ["_law_frame_here"] (defScope st_l_built) := ⟨rfl, rfl, rfl, by decide +kernel, rfl, by decide +kernel, by decide +kernel⟩
theorem ok_l_built {f : Addr} {fd : FuncData} (F : FunD K "_law_built" "_law_built" (defArgs st_l_built) (defBody st_l_built) (defScope st_l_built) [] [] f fd) (M_Setting : MakeD P w K mg base 5 "Setting" "Setting" 4 m_Setting_init) (g_tuple : mg "tuple" = none) : FnD P w K mg base 7 f (spP K 1 m_l_built) := by
  have sc := sc_l_built
  exact fn_pure (k := 6) (m := b_l_built) F sc_l_built (F.bindsN fun _ _ _ _ _ _ us hl => match us, hl with | [_], _ => rfl) fun cdv A outer s H E hr tk ps => ⟨_,
    (pdb_one (pds_ret (pd_fz (pdo_make M_Setting (hr.mono (by decide)) rfl tk (argN_cons (argN_cons (argN_cons (argN_cons argN_nil)))) (pda_cons (pd_callTy call_tupE cd_tuple rfl g_tuple bt_tuple (pda_cons (pd_ix ix_getD opd_get (dv 0) pd_int) pda_nil)) (pda_cons (pd_callTy call_tupE cd_tuple rfl g_tuple bt_tuple (pda_cons (pd_ix ix_getD opd_get (dv 0) pd_int) pda_nil)) (pda_cons (pd_callTy call_tupE cd_tuple rfl g_tuple bt_tuple (pda_cons (pd_ix ix_getD opd_get (dv 0) pd_int) pda_nil)) (pda_cons (pd_callTy call_tupE cd_tuple rfl g_tuple bt_tuple (pda_cons (pd_ix ix_getD opd_get (dv 0) pd_int) pda_nil)) pda_nil))))))))⟩
theorem sc_l_dip : FnScope N_l_dip ["_law_jar_here", "_law_top"] (defScope st_l_dip) := ⟨rfl, rfl, rfl, by decide +kernel, rfl, by decide +kernel, by decide +kernel⟩
theorem ok_l_dip {f : Addr} {fd : FuncData} (F : FunD K "_law_dip" "_law_dip" (defArgs st_l_dip) (defBody st_l_dip) (defScope st_l_dip) [] [] f fd) (g_divmod : mg "divmod" = none) (g_int : mg "int" = none) : FnD P w K mg base 1 f (spI K 1 m_l_dip) := by
  have sc := sc_l_dip
  exact fn_io (k := 0) (m := b_l_dip) F sc_l_dip (F.bindsN fun _ _ _ _ _ _ us hl => match us, hl with | [_, _], _ => rfl) fun cdv A outer s H E hr tk ps => ⟨_,
    (pdb_cons (pds_asg (pd_op op_addD opd_add (pd_ixO (i := 0) ix_getD opd_get (pnm 0) pd_int) pd_int) (pdg_ix (i := 0) (pnm 0) pd_int))
    (pdb_cons (pds_if (pdt_cmp op_gt opd_gt (pd_ixO (i := 0) ix_getD opd_get (pnm 0) pd_int) pd_int) (pdb_cons (pds_asgw (pdw_divmod rfl g_divmod (pda_cons (pd_ixO (i := 0) ix_getD opd_get (pnm 0) pd_int) (pda_cons (dv 1) pda_nil))) (pdg_tup rfl (pdgs_cons (pdg_ix (i := 0) (pnm 0) pd_int) (pdgs_cons (pdg_name (i := 2) sc.nd rfl (.inl rfl)) pdgs_nil))))
    (pdb_one (pds_ret (dv 2)))) pdb_nil)
    (pdb_cons (pds_asg (pd_op op_mod opd_mod (pd_callTy call_int1 cd_int rfl g_int bt_int (pda_cons (pd_op op_addD opd_add (pd_op op_mul opd_mul (pd_ixO (i := 0) ix_getD opd_get (pnm 0) pd_int) pd_int) (pd_op op_mul opd_mul pd_int (pd_ixO (i := 0) ix_getD opd_get (pnm 0) pd_int))) pda_nil)) pd_int) (pdg_ix (i := 0) (pnm 0) pd_int))
    (pdb_one (pds_ret (pd_op op_mod opd_mod (pd_callTy call_int1 cd_int rfl g_int bt_int (pda_cons (pd_op op_fdiv opd_div (pd_ixO (i := 0) ix_getD opd_get (pnm 0) pd_int) pd_int) pda_nil)) (dv 1)))))))⟩
theorem sc_l_falls : FnScope N_l_falls ["_law_frame_here", "_law_lost"] (defScope st_l_falls) := ⟨rfl, rfl, rfl, by decide +kernel, rfl, by decide +kernel, by decide +kernel⟩
theorem ok_l_falls {f : Addr} {fd : FuncData} (F : FunD K "_law_falls" "_law_falls" (defArgs st_l_falls) (defBody st_l_falls) (defScope st_l_falls) [] [] f fd) (g_any : mg "any" = none) (g_all : mg "all" = none) : FnD P w K mg base 1 f (spP K 2 m_l_falls) := by
  have sc := sc_l_falls
  exact fn_pure (k := 0) (m := b_l_falls) F sc_l_falls (F.bindsN fun _ _ _ _ _ _ us hl => match us, hl with | [_, _], _ => rfl) fun cdv A outer s H E hr tk ps => ⟨_,
    (pdb_one (pds_ret (pd_callB (cr_any rfl) cd_any rfl g_any bt_any (pda_cons (pd_lc (wk := false) (own := [("_law_lot", 2)]) (g := (gName 2)) (tt := tYes) (te := (tCB (rAll K) (tCons (tLc (iSeqD K (tVar 1)) (gName 3) tYes (tOp (rInB K) (tVar 3) (tVar 2)) [3]) tNil))) rfl sc.nd (pdi_seq (pd_ix ix_getD opd_get (dv 0) pd_int)) (blkOk_by (own := [("_law_lot", 2)]) (N := N_l_falls) (sc := defScope st_l_falls) (by decide +kernel)) (fun _ _ _ _ _ => (pdg_name (i := 2) sc.nd rfl (.inr rfl))) (fun _ _ _ _ _ => pdts_nil) (fun _ _ _ _ _ => (pd_callB (cr_all rfl) cd_all rfl g_all bt_all (pda_cons (pd_lc (wk := false) (own := [("_law_place", 3)]) (g := (gName 3)) (tt := tYes) (te := (tOp (rInB K) (tVar 3) (tVar 2))) rfl sc.nd (pdi_seq (dv 1)) (blkOk_by (own := [("_law_place", 3)]) (by kernel_rfl)) (fun _ _ _ _ _ => (pdg_name (i := 3) sc.nd rfl (.inl rfl))) (fun _ _ _ _ _ => pdts_nil) (fun _ _ _ _ _ => (pd_cmp (op_inB (u65 hr)) opd_in (dv 3) (dv 2)))) pda_nil)))) pda_nil))))⟩
theorem sc_l_falls_due : FnScope N_l_falls_due ["_law_frame_here", "_law_some"] (defScope st_l_falls_due) := ⟨rfl, rfl, rfl, by decide +kernel, rfl, by decide +kernel, by decide +kernel⟩
theorem ok_l_falls_due {f : Addr} {fd : FuncData} (F : FunD K "_law_falls_due" "_law_falls_due" (defArgs st_l_falls_due) (defBody st_l_falls_due) (defScope st_l_falls_due) [] [] f fd) (g_isinstance : mg "isinstance" = none) (g_tuple : mg "tuple" = none) (g_enumerate : mg "enumerate" = none) (g_str : mg "str" = none) (g_repr : mg "repr" = none) (G_l_falls : DefP P w K mg base 1 "_law_falls" 2 m_l_falls) : FnD P w K mg base 2 f (spP K 2 m_l_falls_due) := by
  have sc := sc_l_falls_due
  exact fn_pure (k := 1) (m := b_l_falls_due) F sc_l_falls_due (F.bindsN fun _ _ _ _ _ _ us hl => match us, hl with | [_, _], _ => rfl) fun cdv A outer s H E hr tk ps => ⟨_,
    (pdb_cons (pds_if (pdt_not (pdt_val (pd_isi kb_tuple rfl g_isinstance rfl g_tuple bt_tuple (dv 1)))) (pdb_one (pds_ret (pd_lst (pda_cons pd_str (pda_cons pd_str pda_nil))))) pdb_nil)
    (pdb_cons (pds_for (wk := true) ps rfl (pdi_enum rfl g_enumerate (pda_cons (dv 1) pda_nil)) (pdg_tup rfl (pdgs_cons (pdg_name (i := 2) sc.nd rfl (.inl rfl)) (pdgs_cons (pdg_name (i := 3) sc.nd rfl (.inl rfl)) pdgs_nil))) (pdb_one (pds_if (pdt_w (pdw_or (pdt_not (pdt_val (pd_isi kb_str rfl g_isinstance rfl g_str bt_str (dv 3)))) (pdw_or (pdt_cmp (op_notInB (u65 hr)) opd_notIn (dv 3) (pd_ix ix_getD opd_get (dv 0) pd_int)) (pdw_or1 (pdt_cmp (op_inB (u65 hr)) opd_in (dv 3) (pd_slice (dv 1) pdp_none (pdp_some (dv 2)))))))) (pdb_one (pds_ret (pd_lst (pda_cons pd_str (pda_cons (pd_callB (call_reprE hr.gd (u64 hr)) cd_reprE rfl g_repr bt_repr (pda_cons (dv 2) pda_nil)) pda_nil))))) pdb_nil)))
    (pdb_one (pds_ret (pd_lst (pda_cons pd_str (pda_cons (pd_callTy call_str_bool cd_strB rfl g_str bt_str (pda_cons (pd_call G_l_falls (hr.mono (by decide)) rfl tk (argN_cons (argN_cons argN_nil)) (pda_cons (dv 0) (pda_cons (dv 1) pda_nil))) pda_nil)) pda_nil)))))))⟩
theorem sc_l_one_of : FnScope N_l_one_of ["_law_jar_here", "_law_some"] (defScope st_l_one_of) := ⟨rfl, rfl, rfl, by decide +kernel, rfl, by decide +kernel, by decide +kernel⟩
theorem ok_l_one_of {f : Addr} {fd : FuncData} (F : FunD K "_law_one_of" "_law_one_of" (defArgs st_l_one_of) (defBody st_l_one_of) (defScope st_l_one_of) [] [] f fd) (G_l_dip : DefI P w K mg base 1 "_law_dip" 1 m_l_dip) (g_len : mg "len" = none) : FnD P w K mg base 2 f (spI K 1 m_l_one_of) := by
  have sc := sc_l_one_of
  exact fn_io (k := 1) (m := b_l_one_of) F sc_l_one_of (F.bindsN fun _ _ _ _ _ _ us hl => match us, hl with | [_, _], _ => rfl) fun cdv A outer s H E hr tk ps => ⟨_,
    (pdb_one (pds_ret (pd_ix ix_getD opd_get (dv 1) (pd_callI (i := 0) G_l_dip (hr.mono (by decide)) rfl tk (pnm 0) (argN_cons argN_nil) (pda_cons (pd_callB call_len cd_len rfl g_len bt_len (pda_cons (dv 1) pda_nil)) pda_nil)))))⟩
theorem sc_l_labels : FnScope N_l_labels ["_law_jar_here"] (defScope st_l_labels) := ⟨rfl, rfl, rfl, by decide +kernel, rfl, by decide +kernel, by decide +kernel⟩
theorem ok_l_labels {f : Addr} {fd : FuncData} (F : FunD K "_law_labels" "_law_labels" (defArgs st_l_labels) (defBody st_l_labels) (defScope st_l_labels) [] [] f fd) (G_l_dip : DefI P w K mg base 1 "_law_dip" 1 m_l_dip) (G_l_one_of : DefI P w K mg base 2 "_law_one_of" 1 m_l_one_of) (g_range : mg "range" = none) (g_int : mg "int" = none) : FnD P w K mg base 3 f (spI K 0 m_l_labels) := by
  have sc := sc_l_labels
  exact fn_io (k := 2) (m := b_l_labels) F sc_l_labels (F.bindsN fun _ _ _ _ _ _ us hl => match us, hl with | [_], _ => rfl) fun cdv A outer s H E hr tk ps => ⟨_,
    (pdb_cons (pds_parL (i := 1) (j := 2) (by decide) rfl sc.nd rfl rfl rfl rfl (pdo_of (pd_lst (pda_cons pd_str (pda_cons pd_str (pda_cons pd_str (pda_cons pd_str (pda_cons pd_str (pda_cons pd_str (pda_cons pd_str (pda_cons pd_str (pda_cons pd_str (pda_cons pd_str (pda_cons pd_str (pda_cons pd_str pda_nil)))))))))))))) (pdo_lst pda_nil))
    (pdb_cons (pds_set (i := 1) sc.nd rfl (.inl rfl) (pd_op op_addD opd_add (dv 1) (pd_lst (pda_cons pd_str pda_nil))))
    (pdb_cons (pds_parL (i := 3) (j := 4) (by decide) rfl sc.nd rfl rfl rfl rfl (pdo_of (pd_callI (i := 0) G_l_dip (hr.mono (by decide)) rfl tk (pnm 0) (argN_cons argN_nil) (pda_cons pd_int pda_nil))) (pdo_of (pd_callI (i := 0) G_l_one_of (hr.mono (by decide)) rfl tk (pnm 0) (argN_cons argN_nil) (pda_cons (pd_lst (pda_cons pd_int (pda_cons pd_int (pda_cons pd_int (pda_cons pd_int (pda_cons pd_int pda_nil)))))) pda_nil))))
    (pdb_cons (pds_for (wk := false) ps rfl (pdi_range1 rfl g_range (pda_cons pd_int pda_nil)) (pdg_name (i := 5) sc.nd rfl (.inl rfl)) (pdb_one (pds_append (i := 2) (pnm 2) (pd_ix ix_getD opd_get (dv 1) (pd_op op_mod opd_mod (pd_callTy call_int1 cd_int rfl g_int bt_int (pda_cons (pd_op op_addD opd_add (dv 3) (pd_op op_mul opd_mul (dv 4) (dv 5))) pda_nil)) pd_int)))))
    (pdb_one (pds_frz (i := 2) (pds_ret (dv 2))))))))⟩
end
end Law_k05
namespace Law_k05
open PySem PySem.Spec PyProof.Rows L2 DD Mi
section
variable {P : Program} {w : World} {K : PySem.W.Frag} {mg : Str → Option Value} {base : Heap}
theorem sc_l_some_of : FnScope N_l_some_of ["_law_jar_here", "_law_things"] (defScope st_l_some_of) := ⟨rfl, rfl, rfl, by decide +kernel, rfl, by decide +kernel, by decide +kernel⟩
theorem ok_l_some_of {f : Addr} {fd : FuncData} (F : FunD K "_law_some_of" "_law_some_of" (defArgs st_l_some_of) (defBody st_l_some_of) (defScope st_l_some_of) [] [] f fd) (G_l_dip : DefI P w K mg base 1 "_law_dip" 1 m_l_dip) : FnD P w K mg base 2 f (spI K 1 m_l_some_of) := by
  have sc := sc_l_some_of
  exact fn_io (k := 1) (m := b_l_some_of) F sc_l_some_of (F.bindsN fun _ _ _ _ _ _ us hl => match us, hl with | [_, _], _ => rfl) fun cdv A outer s H E hr tk ps => ⟨_,
    (pdb_one (pds_ret (pd_lc (wk := false) (own := [("_law_thing", 2)]) (g := (gName 2)) (tt := (tTest (tOp (rEqD K) (tCallS (spI K 1 m_l_dip) (WE W0) (tCons (tVar 0) (tCons (tC (.int 2)) tNil))) (tC (.int 0))))) (te := (tVar 2)) rfl sc.nd (pdi_seq (dv 1)) (blkOk_by (own := [("_law_thing", 2)]) (N := N_l_some_of) (sc := defScope st_l_some_of) (by decide +kernel)) (fun _ _ _ _ _ => (pdg_name (i := 2) sc.nd rfl (.inl rfl))) (fun _ _ _ _ _ => (pdts_one (pdt_cmp (op_eqD (u64 hr)) opd_eq (pd_callI (i := 0) G_l_dip (hr.mono (by decide)) rfl tk0 (pnm 0) (argN_cons argN_nil) (pda_cons pd_int pda_nil)) pd_int))) (fun _ _ _ _ _ => (dv 2)))))⟩
theorem sc_l_frame : FnScope N_l_frame ["_law_jar_here", "_law_most", "_law_readers_most"] (defScope st_l_frame) := ⟨rfl, rfl, rfl, by decide +kernel, rfl, by decide +kernel, by decide +kernel⟩
theorem ok_l_frame {f : Addr} {fd : FuncData} (F : FunD K "_law_frame" "_law_frame" (defArgs st_l_frame) (defBody st_l_frame) (defScope st_l_frame) [] [] f fd) (G_l_labels : DefI P w K mg base 3 "_law_labels" 0 m_l_labels) (G_l_dip : DefI P w K mg base 1 "_law_dip" 1 m_l_dip) (g_range : mg "range" = none) (G_l_some_of : DefI P w K mg base 2 "_law_some_of" 1 m_l_some_of) (G_l_one_of : DefI P w K mg base 2 "_law_one_of" 1 m_l_one_of) (g_tuple : mg "tuple" = none) : FnD P w K mg base 4 f (spI K 2 m_l_frame) := by
  have sc := sc_l_frame
  exact fn_io (k := 3) (m := b_l_frame) F sc_l_frame (F.bindsN fun _ _ _ _ _ _ us hl => match us, hl with | [_, _, _], _ => rfl) fun cdv A outer s H E hr tk ps => ⟨_,
    (pdb_cons (pds_parL (i := 3) (j := 4) (by decide) rfl sc.nd rfl rfl rfl rfl (pdo_of (pd_callI (i := 0) G_l_labels (hr.mono (by decide)) rfl tk (pnm 0) argN_nil pda_nil)) (pdo_of (pd_op op_addD opd_add pd_int (pd_callI (i := 0) G_l_dip (hr.mono (by decide)) rfl tk (pnm 0) (argN_cons argN_nil) (pda_cons (dv 1) pda_nil)))))
    (pdb_cons (pds_parL (i := 5) (j := 6) (by decide) rfl sc.nd rfl rfl rfl rfl (pdo_of (pd_slice (dv 3) pdp_none (pdp_some (dv 4)))) (pdo_of (pd_slice (dv 3) (pdp_some pd_int) (pdp_some (pd_op op_addD opd_add pd_int (pd_callI (i := 0) G_l_dip (hr.mono (by decide)) rfl tk (pnm 0) (argN_cons argN_nil) (pda_cons (dv 2) pda_nil)))))))
    (pdb_cons (pds_parL (i := 7) (j := 8) (by decide) rfl sc.nd rfl rfl rfl rfl (pdo_lst pda_nil) (pdo_of (pd_lst pda_nil)))
    (pdb_cons (pds_for (wk := false) ps rfl (pdi_range1 rfl g_range (pda_cons (pd_op op_addD opd_add pd_int (pd_callI (i := 0) G_l_dip (hr.mono (by decide)) rfl tk (pnm 0) (argN_cons argN_nil) (pda_cons pd_int pda_nil))) pda_nil)) (pdg_name (i := 9) sc.nd rfl (.inl rfl)) (pdb_cons (pds_set (i := 10) sc.nd rfl (.inl rfl) (pd_if (pdt_cmp (op_eqD (u64 hr)) opd_eq (pd_callI (i := 0) G_l_dip (hr.mono (by decide)) rfl tk (pnm 0) (argN_cons argN_nil) (pda_cons pd_int pda_nil)) pd_int) (pd_callI (i := 0) G_l_some_of (hr.mono (by decide)) rfl tk (pnm 0) (argN_cons argN_nil) (pda_cons (dv 5) pda_nil)) (pd_lst (pda_cons (pd_callI (i := 0) G_l_one_of (hr.mono (by decide)) rfl tk (pnm 0) (argN_cons argN_nil) (pda_cons (dv 5) pda_nil)) pda_nil))))
    (pdb_one (pds_if (pdt_cmpRt (i := 7) (op_notInB (u65 hr)) opd_notIn (pd_callTy call_tupE cd_tuple rfl g_tuple bt_tuple (pda_cons (dv 10) pda_nil)) (pnm 7)) (pdb_one (pds_append (i := 7) (pnm 7) (pd_callTy call_tupE cd_tuple rfl g_tuple bt_tuple (pda_cons (dv 10) pda_nil)))) pdb_nil))))
    (pdb_cons (pds_if (pdt_cmp (op_eqD (u64 hr)) opd_eq (pd_callI (i := 0) G_l_dip (hr.mono (by decide)) rfl tk (pnm 0) (argN_cons argN_nil) (pda_cons pd_int pda_nil)) pd_int) (pdb_one (pds_setLc (i := 7) (wk := false) (own := [("_law_place", 13)]) (g := (gName 13)) (tt := tYes) (te := (tTupE (tCons (tVar 13) tNil))) rfl sc.nd rfl rfl (pdi_seq (dv 5)) (blkOk_by (own := [("_law_place", 13)]) (N := N_l_frame) (sc := defScope st_l_frame) (by decide +kernel)) (fun _ _ _ _ _ => (pdg_name (i := 13) sc.nd rfl (.inl rfl))) (fun _ _ _ _ _ => pdts_nil) (fun _ _ _ _ _ => (pd_tup (pda_cons (dv 13) pda_nil))))) pdb_nil)
    (pdb_cons (pds_set (i := 11) sc.nd rfl (.inr rfl) (pd_callI (i := 0) G_l_dip (hr.mono (by decide)) rfl tk (pnm 0) (argN_cons argN_nil) (pda_cons pd_int pda_nil)))
    (pdb_cons (pds_for (wk := false) ps rfl (pdi_seq (dv 6)) (pdg_name (i := 12) sc.nd rfl (.inr rfl)) (pdb_one (pds_set (i := 8) sc.nd rfl (.inl rfl) (pd_op op_addD opd_add (dv 8) (pd_lc (wk := false) (own := [("_law_two", 14)]) (g := (gName 14)) (tt := (tAnd (tTest (tOp (rNeD K) (tVar 14) (tVar 12))) (tTest (tOp _ (tCallS (spI K 1 m_l_dip) (WE W0) (tCons (tVar 0) (tCons (tC (.int 4)) tNil))) (tVar 11))))) (te := (tTupE (tCons (tVar 12) (tCons (tVar 14) tNil)))) rfl sc.nd (pdi_seq (dv 6)) (blkOk_by (own := [("_law_two", 14)]) (N := N_l_frame) (sc := defScope st_l_frame) (by decide +kernel)) (fun _ _ _ _ _ => (pdg_name (i := 14) sc.nd rfl (.inl rfl))) (fun _ _ _ _ _ => (pdts_one (pdt_w (pdw_and (pdt_cmp (op_neD (u64 hr)) opd_ne (dv 14) (dv 12)) (pdw_and1 (pdt_cmp op_lt opd_lt (pd_callI (i := 0) G_l_dip (hr.mono (by decide)) rfl tk0 (pnm 0) (argN_cons argN_nil) (pda_cons pd_int pda_nil)) (dv 11))))))) (fun _ _ _ _ _ => (pd_tup (pda_cons (dv 12) (pda_cons (dv 14) pda_nil)))))))))
    (pdb_one (pds_frz (i := 7) (pds_ret (pd_lst (pda_cons (dv 5) (pda_cons (dv 7) (pda_cons (dv 6) (pda_cons (dv 8) pda_nil)))))))))))))))⟩
theorem sc_l_heard : FnScope N_l_heard ["_law_act"] (defScope st_l_heard) := ⟨rfl, rfl, rfl, by decide +kernel, rfl, by decide +kernel, by decide +kernel⟩
theorem okL_l_heard {f : Addr} {fd : FuncData} (hg : mg "_law_heard" = some (.ref f)) (F : FunD K "_law_heard" "_law_heard" (defArgs st_l_heard) (defBody st_l_heard) (defScope st_l_heard) [] [] f fd) (gx_UnknownName : mg "UnknownName" = some (.ref (cadr K "UnknownName"))) (xm_UnknownName_UnknownName : ExmA K "UnknownName" "UnknownName" true) (xm_InvalidPromises_UnknownName : ExmA K "InvalidPromises" "UnknownName" false) (xm_InvalidHouses_UnknownName : ExmA K "InvalidHouses" "UnknownName" false) (xo_UnknownName : OexF K "UnknownName" "given") (g_repr : mg "repr" = none) (gx_InvalidPromises : mg "InvalidPromises" = some (.ref (cadr K "InvalidPromises"))) (xm_UnknownName_InvalidPromises : ExmA K "UnknownName" "InvalidPromises" false) (xm_InvalidPromises_InvalidPromises : ExmA K "InvalidPromises" "InvalidPromises" true) (xm_InvalidHouses_InvalidPromises : ExmA K "InvalidHouses" "InvalidPromises" false) (xo_InvalidPromises : OexF K "InvalidPromises" "index") (gx_InvalidHouses : mg "InvalidHouses" = some (.ref (cadr K "InvalidHouses"))) (xm_UnknownName_InvalidHouses : ExmA K "UnknownName" "InvalidHouses" false) (xm_InvalidPromises_InvalidHouses : ExmA K "InvalidPromises" "InvalidHouses" false) (xm_InvalidHouses_InvalidHouses : ExmA K "InvalidHouses" "InvalidHouses" true) (xo_InvalidHouses : OexF K "InvalidHouses" "index") (T_Setting___str__ : MethD P w K mg base 1 "Setting" "__str__" 1 m_Setting___str__) (g_str : mg "str" = none) : LamD P w K mg base 3 "_law_heard" r_l_heard_4 := by
  have sc := sc_l_heard
  exact lamD_asg (iF := 1) (N := N_l_heard) hg F sc_l_heard (F.bindsN fun _ _ _ _ _ _ us hl => match us, hl with | [_], _ => rfl) rfl (.inl rfl) sc.nd rfl (.inl rfl) (by decide) (hlF := rfl) (hsw := fun _ => rfl) (hcl := fun cdv A outer s H hr => ⟨_, (ClsX.cons (i := 2) (tab := [("InvalidHouses", true), ("InvalidPromises", false), ("UnknownName", false)]) (te := fun a cls d => (tLst (tCons ((tC (.str "houses"))) (tCons (tCB (rReprE K) (tCons (tXf a cls d (cadr K "InvalidHouses") "index" (tVar 2)) tNil)) tNil)))) rfl (by decide) gx_InvalidHouses rfl rfl (ExmL.cons xm_InvalidHouses_InvalidHouses (ExmL.cons xm_InvalidPromises_InvalidHouses (ExmL.cons xm_UnknownName_InvalidHouses ExmL.nil))) (by decide +kernel) (by decide) (fun a oe cls d pn hz hf => (px_lst (pxl_cons (px_of pd_str) (pxl_cons (px_callB (call_reprE (guardS hr) (u64S hr)) cd_reprE rfl g_repr bt_repr (px_xf xo_InvalidHouses.xf xo_InvalidHouses.no hz hf (dv (W := WF) 2).pe)) pxl_nil))))
      (ClsX.cons (i := 2) (tab := [("InvalidHouses", false), ("InvalidPromises", true), ("UnknownName", false)]) (te := fun a cls d => (tLst (tCons ((tC (.str "promises"))) (tCons (tCB (rReprE K) (tCons (tXf a cls d (cadr K "InvalidPromises") "index" (tVar 2)) tNil)) tNil)))) rfl (by decide) gx_InvalidPromises rfl rfl (ExmL.cons xm_InvalidHouses_InvalidPromises (ExmL.cons xm_InvalidPromises_InvalidPromises (ExmL.cons xm_UnknownName_InvalidPromises ExmL.nil))) (by decide +kernel) (by decide) (fun a oe cls d pn hz hf => (px_lst (pxl_cons (px_of pd_str) (pxl_cons (px_callB (call_reprE (guardS hr) (u64S hr)) cd_reprE rfl g_repr bt_repr (px_xf xo_InvalidPromises.xf xo_InvalidPromises.no hz hf (dv (W := WF) 2).pe)) pxl_nil))))
      (ClsX.cons (i := 2) (tab := [("InvalidHouses", false), ("InvalidPromises", false), ("UnknownName", true)]) (te := fun a cls d => (tLst (tCons ((tC (.str "name"))) (tCons (tCB (rReprE K) (tCons (tXf a cls d (cadr K "UnknownName") "given" (tVar 2)) tNil)) tNil)))) rfl (by decide) gx_UnknownName rfl rfl (ExmL.cons xm_InvalidHouses_UnknownName (ExmL.cons xm_InvalidPromises_UnknownName (ExmL.cons xm_UnknownName_UnknownName ExmL.nil))) (by decide +kernel) (by decide) (fun a oe cls d pn hz hf => (px_lst (pxl_cons (px_of pd_str) (pxl_cons (px_callB (call_reprE (guardS hr) (u64S hr)) cd_reprE rfl g_repr bt_repr (px_xf xo_UnknownName.xf xo_UnknownName.no hz hf (dv (W := WF) 2).pe)) pxl_nil))))
      ClsX.nil)))⟩) (hrest := fun cdv A outer s H hr => ⟨_, (pdb_one (pds_ret (pd_lst (pda_cons pd_str (pda_cons (pd_strA T_Setting___str__ (hr.mono (by decide)) rfl g_str bt_str (dv 1)) pda_nil)))))⟩)
theorem sc_Setting_joined : FnScope N_Setting_joined ["self", "promise"] (defScope st_Setting_joined) := ⟨rfl, rfl, rfl, by decide +kernel, rfl, by decide +kernel, by decide +kernel⟩
theorem okG_Setting_joined {f : Addr} {fd : FuncData} (F : FunD K "joined" "Setting.joined" (defArgs st_Setting_joined) (defBody st_Setting_joined) (defScope st_Setting_joined) [] [] f fd) (G_is_pair : DefP P w K mg base 3 "is_pair" 2 m_is_pair) (c_Setting : Cls K (cadr K "Setting")) (n_Setting_readers : NoAttr K (cadr K "Setting") "readers") (xf_InvalidPromises : ExF P w K mg base "InvalidPromises" "index") (gx_InvalidPromises : mg "InvalidPromises" = some (.ref (cadr K "InvalidPromises"))) (g_len : mg "len" = none) (n_Setting_promises : NoAttr K (cadr K "Setting") "promises") (M_Setting : MakeD P w K mg base 5 "Setting" "Setting" 4 m_Setting_init) (n_Setting_houses : NoAttr K (cadr K "Setting") "houses") (n_Setting_fails : NoAttr K (cadr K "Setting") "fails") : FnG P w K mg base (L2.CX P w) 7 f fd ["self", "promise"] (spP K 2 m_Setting_joined) := by
  have sc := sc_Setting_joined
  exact fnG_pure (P := P) (w := w) (base := base) (mg := mg) (N := N_Setting_joined) (ps := ["self", "promise"]) (k := 6) (m := b_Setting_joined) F sc_Setting_joined fun cdv A outer s H E hr tk ps => ⟨_,
    (pdb_cons (pds_if (pdt_not (pdt_val (pd_call G_is_pair (hr.mono (by decide)) rfl tk (argN_cons (argN_cons argN_nil)) (pda_cons (pd_fld c_Setting n_Setting_readers (dv 0)) (pda_cons (dv 1) pda_nil))))) (pdb_one (pds_raise1 xf_InvalidPromises gx_InvalidPromises (hr.mono (by decide)) rfl tk rfl (pda_cons (pd_callB call_len cd_len rfl g_len bt_len (pda_cons (pd_fld c_Setting n_Setting_promises (dv 0)) pda_nil)) pda_nil))) pdb_nil)
    (pdb_cons (pds_if (pdt_cmp (op_inB (u65 hr)) opd_in (dv 1) (pd_fld c_Setting n_Setting_promises (dv 0))) (pdb_one (pds_ret (dv 0))) pdb_nil)
    (pdb_one (pds_ret (pd_fz (pdo_make M_Setting (hr.mono (by decide)) rfl tk (argN_cons (argN_cons (argN_cons (argN_cons argN_nil)))) (pda_cons (pd_fld c_Setting n_Setting_houses (dv 0)) (pda_cons (pd_fld c_Setting n_Setting_fails (dv 0)) (pda_cons (pd_fld c_Setting n_Setting_readers (dv 0)) (pda_cons (pd_tup (pda_star (pd_fld c_Setting n_Setting_promises (dv 0)) (pda_cons (dv 1) pda_nil))) pda_nil))))))))))⟩
theorem ok_Setting_joined {f : Addr} {fd : FuncData} (F : FunD K "joined" "Setting.joined" (defArgs st_Setting_joined) (defBody st_Setting_joined) (defScope st_Setting_joined) [] [] f fd) (G_is_pair : DefP P w K mg base 3 "is_pair" 2 m_is_pair) (c_Setting : Cls K (cadr K "Setting")) (n_Setting_readers : NoAttr K (cadr K "Setting") "readers") (xf_InvalidPromises : ExF P w K mg base "InvalidPromises" "index") (gx_InvalidPromises : mg "InvalidPromises" = some (.ref (cadr K "InvalidPromises"))) (g_len : mg "len" = none) (n_Setting_promises : NoAttr K (cadr K "Setting") "promises") (M_Setting : MakeD P w K mg base 5 "Setting" "Setting" 4 m_Setting_init) (n_Setting_houses : NoAttr K (cadr K "Setting") "houses") (n_Setting_fails : NoAttr K (cadr K "Setting") "fails") : FnD P w K mg base 7 f (spP K 2 m_Setting_joined) := ⟨fd, ["self", "promise"], F.kp, F.bindsN fun _ _ _ _ _ _ us hl => match us, hl with | [_, _], _ => rfl, okG_Setting_joined F G_is_pair c_Setting n_Setting_readers xf_InvalidPromises gx_InvalidPromises g_len n_Setting_promises M_Setting n_Setting_houses n_Setting_fails⟩
end
end Law_k05
namespace Law_k05
open PySem PySem.Spec PyProof.Rows L2 DD Mi
section
variable {P : Program} {w : World} {K : PySem.W.Frag} {mg : Str → Option Value} {base : Heap}
theorem sc_Setting_without : FnScope N_Setting_without ["self", "promise"] (defScope st_Setting_without) := ⟨rfl, rfl, rfl, by decide +kernel, rfl, by decide +kernel, by decide +kernel⟩
theorem okG_Setting_without {f : Addr} {fd : FuncData} (F : FunD K "without" "Setting.without" (defArgs st_Setting_without) (defBody st_Setting_without) (defScope st_Setting_without) [] [] f fd) (G_is_pair : DefP P w K mg base 3 "is_pair" 2 m_is_pair) (c_Setting : Cls K (cadr K "Setting")) (n_Setting_readers : NoAttr K (cadr K "Setting") "readers") (n_Setting_promises : NoAttr K (cadr K "Setting") "promises") (xf_UnknownName : ExF P w K mg base "UnknownName" "given") (gx_UnknownName : mg "UnknownName" = some (.ref (cadr K "UnknownName"))) (g_tuple : mg "tuple" = none) (M_Setting : MakeD P w K mg base 5 "Setting" "Setting" 4 m_Setting_init) (n_Setting_houses : NoAttr K (cadr K "Setting") "houses") (n_Setting_fails : NoAttr K (cadr K "Setting") "fails") : FnG P w K mg base (L2.CX P w) 7 f fd ["self", "promise"] (spP K 2 m_Setting_without_2) := by
  have sc := sc_Setting_without
  exact fnG_pure (P := P) (w := w) (base := base) (mg := mg) (N := N_Setting_without) (ps := ["self", "promise"]) (k := 6) (m := b_Setting_without_2) F sc_Setting_without fun cdv A outer s H E hr tk ps => ⟨_,
    (pdb_cons (pds_if (pdt_w (pdw_or (pdt_not (pdt_val (pd_call G_is_pair (hr.mono (by decide)) rfl tk (argN_cons (argN_cons argN_nil)) (pda_cons (pd_fld c_Setting n_Setting_readers (dv 0)) (pda_cons (dv 1) pda_nil))))) (pdw_or1 (pdt_cmp (op_notInB (u65 hr)) opd_notIn (dv 1) (pd_fld c_Setting n_Setting_promises (dv 0)))))) (pdb_one (pds_raise1 xf_UnknownName gx_UnknownName (hr.mono (by decide)) rfl tk rfl (pda_cons (dv 1) pda_nil))) pdb_nil)
    (pdb_cons (pds_set (i := 2) sc.nd rfl (.inl rfl) (pd_callTy call_tupE cd_tuple rfl g_tuple bt_tuple (pda_cons (pd_lc (wk := false) (own := [("each", 3)]) (g := (gName 3)) (tt := (tTest (tOp (rNeD K) (tVar 3) (tVar 1)))) (te := (tVar 3)) rfl sc.nd (pdi_seq (pd_fld c_Setting n_Setting_promises (dv 0))) (blkOk_by (own := [("each", 3)]) (N := N_Setting_without) (sc := defScope st_Setting_without) (by decide +kernel)) (fun _ _ _ _ _ => (pdg_name (i := 3) sc.nd rfl (.inl rfl))) (fun _ _ _ _ _ => (pdts_one (pdt_cmp (op_neD (u64 hr)) opd_ne (dv 3) (dv 1)))) (fun _ _ _ _ _ => (dv 3))) pda_nil)))
    (pdb_one (pds_ret (pd_fz (pdo_make M_Setting (hr.mono (by decide)) rfl tk (argN_cons (argN_cons (argN_cons (argN_cons argN_nil)))) (pda_cons (pd_fld c_Setting n_Setting_houses (dv 0)) (pda_cons (pd_fld c_Setting n_Setting_fails (dv 0)) (pda_cons (pd_fld c_Setting n_Setting_readers (dv 0)) (pda_cons (dv 2) pda_nil))))))))))⟩
theorem ok_Setting_without {f : Addr} {fd : FuncData} (F : FunD K "without" "Setting.without" (defArgs st_Setting_without) (defBody st_Setting_without) (defScope st_Setting_without) [] [] f fd) (G_is_pair : DefP P w K mg base 3 "is_pair" 2 m_is_pair) (c_Setting : Cls K (cadr K "Setting")) (n_Setting_readers : NoAttr K (cadr K "Setting") "readers") (n_Setting_promises : NoAttr K (cadr K "Setting") "promises") (xf_UnknownName : ExF P w K mg base "UnknownName" "given") (gx_UnknownName : mg "UnknownName" = some (.ref (cadr K "UnknownName"))) (g_tuple : mg "tuple" = none) (M_Setting : MakeD P w K mg base 5 "Setting" "Setting" 4 m_Setting_init) (n_Setting_houses : NoAttr K (cadr K "Setting") "houses") (n_Setting_fails : NoAttr K (cadr K "Setting") "fails") : FnD P w K mg base 7 f (spP K 2 m_Setting_without_2) := ⟨fd, ["self", "promise"], F.kp, F.bindsN fun _ _ _ _ _ _ us hl => match us, hl with | [_, _], _ => rfl, okG_Setting_without F G_is_pair c_Setting n_Setting_readers n_Setting_promises xf_UnknownName gx_UnknownName g_tuple M_Setting n_Setting_houses n_Setting_fails⟩
theorem sc_l_pair_right : FnScope N_l_pair_right ["_law_jar_here", "_law_frame_here", "_law_mine"] (defScope st_l_pair_right) := ⟨rfl, rfl, rfl, by decide +kernel, rfl, by decide +kernel, by decide +kernel⟩
theorem ok_l_pair_right {f : Addr} {fd : FuncData} (F : FunD K "_law_pair_right" "_law_pair_right" (defArgs st_l_pair_right) (defBody st_l_pair_right) (defScope st_l_pair_right) [] [] f fd) (G_l_one_of : DefI P w K mg base 2 "_law_one_of" 1 m_l_one_of) (g_range : mg "range" = none) (g_isinstance : mg "isinstance" = none) (g_tuple : mg "tuple" = none) (g_len : mg "len" = none) (g_repr : mg "repr" = none) (T_Setting___str__ : MethD P w K mg base 1 "Setting" "__str__" 1 m_Setting___str__) (g_str : mg "str" = none) (G_l_built : DefP P w K mg base 7 "_law_built" 1 m_l_built) (L_l_heard : LamD P w K mg base 3 "_law_heard" r_l_heard_4) (mk : ∀ cdv : Value, PySem.W.codeIn K cdv "_law_pair_right" = true → fd.code = cdv → MkD K mg base cdv "_law_pair_right") (c_Setting : Cls K (cadr K "Setting")) (T_Setting_joined : MethD P w K mg base 7 "Setting" "joined" 2 m_Setting_joined) (KW_Setting_joined_1_promise : MethPK P w K mg base 7 "Setting" "joined" ["promise"] [0, 1] 2 m_Setting_joined) (T_Setting_without : MethD P w K mg base 7 "Setting" "without" 2 m_Setting_without_2) (KW_Setting_without_1_promise : MethPK P w K mg base 7 "Setting" "without" ["promise"] [0, 1] 2 m_Setting_without_2) : FnD P w K mg base 10 f (spI K 2 m_l_pair_right) := by
  have sc := sc_l_pair_right
  exact fn_ioC (k := 9) (m := b_l_pair_right) F sc_l_pair_right (F.bindsN fun _ _ _ _ _ _ us hl => match us, hl with | [_, _, _], _ => rfl) fun cdv hcd1 hcd2 A outer s H E hr tk ps => have mk := mk cdv hcd1 hcd2; ⟨_,
    (pdb_cons (pds_set (i := 3) sc.nd rfl (.inl rfl) (pd_lst (pda_cons pd_non (pda_cons pd_str (pda_cons (pd_tup pda_nil) (pda_cons (pd_tup (pda_cons pd_str pda_nil)) (pda_cons (pd_lst (pda_cons pd_str (pda_cons pd_str pda_nil))) (pda_cons (pd_tup (pda_cons pd_int (pda_cons pd_int pda_nil))) (pda_cons (pd_fz pdo_dnew) (pda_cons (pd_op op_repTD opd_repTD (pd_tup (pda_cons (pd_ix ix_getD opd_get (pd_ix ix_getD opd_get (dv 1) pd_int) pd_int) pda_nil)) pd_int) (pda_cons (pd_tup (pda_cons (pd_ix ix_getD opd_get (pd_ix ix_getD opd_get (dv 1) pd_int) pd_int) (pda_cons (pd_ix ix_getD opd_get (pd_ix ix_getD opd_get (dv 1) pd_int) pd_int) pda_nil))) pda_nil)))))))))))
    (pdb_cons (pds_set (i := 4) sc.nd rfl (.inr rfl) (pd_callI (i := 0) G_l_one_of (hr.mono (by decide)) rfl tk (pnm 0) (argN_cons argN_nil) (pda_cons (pd_op op_addD opd_add (dv 3) (pd_lc (wk := false) (own := [("_law_k", 8)]) (g := (gName 8)) (tt := tYes) (te := (tTupE (tCons (tCallS (spI K 1 m_l_one_of) (WE W0) (tCons (tVar 0) (tCons (tOp (rGetD K) (tVar 1) (tC (.int 2))) tNil))) (tCons (tCallS (spI K 1 m_l_one_of) (WE W0) (tCons (tVar 0) (tCons (tOp (rGetD K) (tVar 1) (tC (.int 2))) tNil))) tNil)))) rfl sc.nd (pdi_range1 rfl g_range (pda_cons pd_int pda_nil)) (blkOk_by (own := [("_law_k", 8)]) (N := N_l_pair_right) (sc := defScope st_l_pair_right) (by decide +kernel)) (fun _ _ _ _ _ => (pdg_name (i := 8) sc.nd rfl (.inl rfl))) (fun _ _ _ _ _ => pdts_nil) (fun _ _ _ _ _ => (pd_tup (pda_cons (pd_callI (i := 0) G_l_one_of (hr.mono (by decide)) rfl tk0 (pnm 0) (argN_cons argN_nil) (pda_cons (pd_ix ix_getD opd_get (dv 1) pd_int) pda_nil)) (pda_cons (pd_callI (i := 0) G_l_one_of (hr.mono (by decide)) rfl tk0 (pnm 0) (argN_cons argN_nil) (pda_cons (pd_ix ix_getD opd_get (dv 1) pd_int) pda_nil)) pda_nil)))))) pda_nil)))
    (pdb_cons (pds_set (i := 5) sc.nd rfl (.inl rfl) (pd_and (pd_isi kb_tuple rfl g_isinstance rfl g_tuple bt_tuple (dv 4)) (pd_and (pd_cmp (op_eqD (u64 hr)) opd_eq (pd_callB call_len cd_len rfl g_len bt_len (pda_cons (dv 4) pda_nil)) pd_int) (pd_and (pd_cmp (op_inB (u65 hr)) opd_in (pd_ix ix_getD opd_get (dv 4) pd_int) (pd_ix ix_getD opd_get (dv 1) pd_int)) (pd_one (pd_cmp (op_inB (u65 hr)) opd_in (pd_ix ix_getD opd_get (dv 4) pd_int) (pd_ix ix_getD opd_get (dv 1) pd_int)))))))
    (pdb_cons (pds_set (i := 6) sc.nd rfl (.inl rfl) (pd_lst (pda_cons pd_str (pda_cons (pd_callB (call_reprE hr.gd (u64 hr)) cd_reprE rfl g_repr bt_repr (pda_cons (pd_callB call_len cd_len rfl g_len bt_len (pda_cons (pd_ix ix_getD opd_get (dv 1) pd_int) pda_nil)) pda_nil)) pda_nil))))
    (pdb_cons (pds_if (pdt_w (pdw_and (pdt_val (dv 5)) (pdw_and1 (pdt_cmp (op_neD (u64 hr)) opd_ne (pd_ix ix_getD opd_get (dv 4) pd_int) (pd_ix ix_getD opd_get (dv 4) pd_int))))) (pdb_one (pds_set (i := 6) sc.nd rfl (.inl rfl) (pd_lst (pda_cons pd_str (pda_cons (pd_strI T_Setting___str__ (hr.mono (by decide)) rfl g_str bt_str (pd_call G_l_built (hr.mono (by decide)) rfl tk (argN_cons argN_nil) (pda_cons (pd_op op_addD opd_add (pd_slice (dv 1) pdp_none (pdp_some pd_int)) (pd_lst (pda_cons (pd_op op_addD opd_add (pd_ix ix_getD opd_get (dv 1) pd_int) (pd_if (pdt_cmp (op_notInB (u65 hr)) opd_notIn (dv 4) (pd_ix ix_getD opd_get (dv 1) pd_int)) (pd_lst (pda_cons (dv 4) pda_nil)) (pd_lst pda_nil))) pda_nil))) pda_nil))) pda_nil))))) pdb_nil)
    (pdb_cons (pds_setO (i := 7) sc.nd rfl (.inl rfl) (pdo_lst (pda_cons (pd_lamcall (y := "_law_pair_right") (k := 7) (tb := fun E => (tMethS2 (cadr K "Setting") "joined" (spP K 2 m_Setting_joined) (WE (fun c d _ H' => E c d H')) (tVar 2) (tCons (tVar 4) tNil))) (L_l_heard.mono (by decide)) mk (hr.mono (by decide)) rfl (by first | rfl | decide +kernel) (LamX.lamS_by (by kernel_rfl)) rfl (fun _ _ _ _ _ => rfl) (fun A outer s H E f c hr tk => (pd_meth T_Setting_joined c_Setting (hr.mono (by decide)) tk (argN_cons argN_nil) (dv 2) (pda_cons (dv 4) pda_nil)))) pda_nil)))
    (pdb_cons (pds_append (i := 7) (pnm 7) (pd_lamcall (y := "_law_pair_right") (k := 7) (tb := fun E => (tMethKS (cadr K "Setting") "joined" 1 (spP K 2 m_Setting_joined) (fun vs zs => permL [0, 1] (vs ++ zs)) (WE (fun c d _ H' => E c d H')) (tVar 2) (tCons (tVar 4) tNil))) (L_l_heard.mono (by decide)) mk (hr.mono (by decide)) rfl (by first | rfl | decide +kernel) (LamX.lamS_by (by kernel_rfl)) rfl (fun _ _ _ _ _ => rfl) (fun A outer s H E f c hr tk => (pd_methK KW_Setting_joined_1_promise c_Setting (hr.mono (by decide)) tk (argN_cons argN_nil) rfl (fun l h => match l, h with | [_, _], _ => rfl) (dv 2) (pdk_cons (dv 4) pdk_nil)))))
    (pdb_cons (pds_if (pdt_cmpL (i := 7) (op_neD (u64 hr)) opd_ne (pnm 7) (pd_lst (pda_cons (dv 6) (pda_cons (dv 6) pda_nil)))) (pdb_one (pds_ret pd_bl)) pdb_nil)
    (pdb_cons (pds_set (i := 6) sc.nd rfl (.inl rfl) (pd_lst (pda_cons pd_str (pda_cons (pd_callB (call_reprE hr.gd (u64 hr)) cd_reprE rfl g_repr bt_repr (pda_cons (dv 4) pda_nil)) pda_nil))))
    (pdb_cons (pds_if (pdt_cmp (op_inX (u65 hr)) opd_inX (dv 4) (pd_ix ix_getD opd_get (dv 1) pd_int)) (pdb_one (pds_set (i := 6) sc.nd rfl (.inl rfl) (pd_lst (pda_cons pd_str (pda_cons (pd_strI T_Setting___str__ (hr.mono (by decide)) rfl g_str bt_str (pd_call G_l_built (hr.mono (by decide)) rfl tk (argN_cons argN_nil) (pda_cons (pd_op op_addD opd_add (pd_slice (dv 1) pdp_none (pdp_some pd_int)) (pd_lst (pda_cons (pd_lc (wk := false) (own := [("_law_each", 9)]) (g := (gName 9)) (tt := (tTest (tOp (rNeD K) (tVar 9) (tVar 4)))) (te := (tVar 9)) rfl sc.nd (pdi_seq (pd_ix ix_getD opd_get (dv 1) pd_int)) (blkOk_by (own := [("_law_each", 9)]) (N := N_l_pair_right) (sc := defScope st_l_pair_right) (by decide +kernel)) (fun _ _ _ _ _ => (pdg_name (i := 9) sc.nd rfl (.inl rfl))) (fun _ _ _ _ _ => (pdts_one (pdt_cmp (op_neD (u64 hr)) opd_ne (dv 9) (dv 4)))) (fun _ _ _ _ _ => (dv 9))) pda_nil))) pda_nil))) pda_nil))))) pdb_nil)
    (pdb_cons (pds_setO (i := 7) sc.nd rfl (.inl rfl) (pdo_lst (pda_cons (pd_lamcall (y := "_law_pair_right") (k := 7) (tb := fun E => (tMethS2 (cadr K "Setting") "without" (spP K 2 m_Setting_without_2) (WE (fun c d _ H' => E c d H')) (tVar 2) (tCons (tVar 4) tNil))) (L_l_heard.mono (by decide)) mk (hr.mono (by decide)) rfl (by first | rfl | decide +kernel) (LamX.lamS_by (by kernel_rfl)) rfl (fun _ _ _ _ _ => rfl) (fun A outer s H E f c hr tk => (pd_meth T_Setting_without c_Setting (hr.mono (by decide)) tk (argN_cons argN_nil) (dv 2) (pda_cons (dv 4) pda_nil)))) pda_nil)))
    (pdb_cons (pds_append (i := 7) (pnm 7) (pd_lamcall (y := "_law_pair_right") (k := 7) (tb := fun E => (tMethKS (cadr K "Setting") "without" 1 (spP K 2 m_Setting_without_2) (fun vs zs => permL [0, 1] (vs ++ zs)) (WE (fun c d _ H' => E c d H')) (tVar 2) (tCons (tVar 4) tNil))) (L_l_heard.mono (by decide)) mk (hr.mono (by decide)) rfl (by first | rfl | decide +kernel) (LamX.lamS_by (by kernel_rfl)) rfl (fun _ _ _ _ _ => rfl) (fun A outer s H E f c hr tk => (pd_methK KW_Setting_without_1_promise c_Setting (hr.mono (by decide)) tk (argN_cons argN_nil) rfl (fun l h => match l, h with | [_, _], _ => rfl) (dv 2) (pdk_cons (dv 4) pdk_nil)))))
    (pdb_one (pds_ret (pd_cmpL (i := 7) (op_eqD (u64 hr)) opd_eq (pnm 7) (pd_lst (pda_cons (dv 6) (pda_cons (dv 6) pda_nil))))))))))))))))))⟩
end
end Law_k05
namespace Law_k05
open PySem PySem.Spec PyProof.Rows L2 DD Mi
section
variable {P : Program} {w : World} {K : PySem.W.Frag} {mg : Str → Option Value} {base : Heap}
theorem sc_l_right : FnScope N_l_right ["_law_jar_here"] (defScope st_l_right) := ⟨rfl, rfl, rfl, by decide +kernel, rfl, by decide +kernel, by decide +kernel⟩
theorem ok_l_right {f : Addr} {fd : FuncData} (F : FunD K "_law_right" "_law_right" (defArgs st_l_right) (defBody st_l_right) (defScope st_l_right) [] [] f fd) (G_l_frame : DefI P w K mg base 4 "_law_frame" 2 m_l_frame) (G_l_built : DefP P w K mg base 7 "_law_built" 1 m_l_built) (T_Setting___str__ : MethD P w K mg base 1 "Setting" "__str__" 1 m_Setting___str__) (g_str : mg "str" = none) (g_range : mg "range" = none) (G_l_some_of : DefI P w K mg base 2 "_law_some_of" 1 m_l_some_of) (G_l_dip : DefI P w K mg base 1 "_law_dip" 1 m_l_dip) (g_list : mg "list" = none) (g_tuple : mg "tuple" = none) (G_l_one_of : DefI P w K mg base 2 "_law_one_of" 1 m_l_one_of) (G_l_falls_due : DefP P w K mg base 2 "_law_falls_due" 2 m_l_falls_due) (L_l_heard : LamD P w K mg base 3 "_law_heard" r_l_heard_4) (mk : ∀ cdv : Value, PySem.W.codeIn K cdv "_law_right" = true → fd.code = cdv → MkD K mg base cdv "_law_right") (c_Setting : Cls K (cadr K "Setting")) (T_Setting_can_fall : MethD P w K mg base 3 "Setting" "can_fall" 2 m_Setting_can_fall_2) (KW_Setting_can_fall_1_houses : MethPK P w K mg base 3 "Setting" "can_fall" ["houses"] [0, 1] 2 m_Setting_can_fall_2) (G_l_pair_right : DefI P w K mg base 10 "_law_pair_right" 2 m_l_pair_right) : FnD P w K mg base 11 f (spI K 0 m_k05_l_right) := by
  have sc := sc_l_right
  exact fn_ioC (k := 10) (m := b_k05_l_right) F sc_l_right (F.bindsN fun _ _ _ _ _ _ us hl => match us, hl with | [_], _ => rfl) fun cdv hcd1 hcd2 A outer s H E hr tk ps => have mk := mk cdv hcd1 hcd2; ⟨_,
    (pdb_cons (pds_set (i := 1) sc.nd rfl (.inl rfl) (pd_callI (i := 0) G_l_frame (hr.mono (by decide)) rfl tk (pnm 0) (argN_cons (argN_cons argN_nil)) (pda_cons pd_int (pda_cons pd_int pda_nil))))
    (pdb_cons (pds_set (i := 2) sc.nd rfl (.inr rfl) (pd_call G_l_built (hr.mono (by decide)) rfl tk (argN_cons argN_nil) (pda_cons (dv 1) pda_nil)))
    (pdb_cons (pds_set (i := 3) sc.nd rfl (.inl rfl) (pd_strI T_Setting___str__ (hr.mono (by decide)) rfl g_str bt_str (dv 2)))
    (pdb_cons (pds_for (wk := false) ps rfl (pdi_range1 rfl g_range (pda_cons pd_int pda_nil)) (pdg_name (i := 4) sc.nd rfl (.inl rfl)) (pdb_cons (pds_set (i := 5) sc.nd rfl (.inr rfl) (pd_step (pd_callI (i := 0) G_l_some_of (hr.mono (by decide)) rfl tk (pnm 0) (argN_cons argN_nil) (pda_cons (pd_ix ix_getD opd_get (dv 1) pd_int) pda_nil)) pdp_none pdp_none (pdp_some (pd_op op_sub opd_sub pd_int (pd_op op_mul opd_mul pd_int (pd_callI (i := 0) G_l_dip (hr.mono (by decide)) rfl tk (pnm 0) (argN_cons argN_nil) (pda_cons pd_int pda_nil)))))))
    (pdb_cons (pds_set (i := 6) sc.nd rfl (.inl rfl) (pd_lst (pda_cons pd_non (pda_cons pd_str (pda_cons (pd_callTy call_list_of cd_list rfl g_list bt_list (pda_cons (dv 5) pda_nil)) (pda_cons pd_int (pda_cons (pd_fz pdo_dnew) (pda_cons (pd_op op_addD opd_add (pd_callTy call_tupE cd_tuple rfl g_tuple bt_tuple (pda_cons (dv 5) pda_nil)) (pd_tup (pda_cons pd_int pda_nil))) (pda_cons (pd_op op_addD opd_add (pd_tup (pda_cons pd_str pda_nil)) (pd_callTy call_tupE cd_tuple rfl g_tuple bt_tuple (pda_cons (dv 5) pda_nil))) (pda_cons (pd_op op_repTD opd_repTD (pd_callTy call_tupE cd_tuple rfl g_tuple bt_tuple (pda_cons (dv 5) pda_nil)) pd_int) (pda_cons (pd_tup (pda_cons pd_str pda_nil)) pda_nil)))))))))))
    (pdb_cons (pds_set (i := 5) sc.nd rfl (.inr rfl) (pd_if (pdt_cmp op_gt opd_gt (pd_callI (i := 0) G_l_dip (hr.mono (by decide)) rfl tk (pnm 0) (argN_cons argN_nil) (pda_cons pd_int pda_nil)) pd_int) (pd_callTy call_tupE cd_tuple rfl g_tuple bt_tuple (pda_cons (dv 5) pda_nil)) (pd_callI (i := 0) G_l_one_of (hr.mono (by decide)) rfl tk (pnm 0) (argN_cons argN_nil) (pda_cons (dv 6) pda_nil))))
    (pdb_cons (pds_set (i := 7) sc.nd rfl (.inl rfl) (pd_call G_l_falls_due (hr.mono (by decide)) rfl tk (argN_cons (argN_cons argN_nil)) (pda_cons (dv 1) (pda_cons (dv 5) pda_nil))))
    (pdb_cons (pds_setO (i := 8) sc.nd rfl (.inl rfl) (pdo_lst (pda_cons (pd_lamcall (y := "_law_right") (k := 3) (tb := fun E => (tMethS2 (cadr K "Setting") "can_fall" (spP K 2 m_Setting_can_fall_2) (WE (fun c d _ H' => E c d H')) (tVar 2) (tCons (tVar 5) tNil))) (L_l_heard.mono (by decide)) mk (hr.mono (by decide)) rfl (by first | rfl | decide +kernel) (LamX.lamS_by (by kernel_rfl)) rfl (fun _ _ _ _ _ => rfl) (fun A outer s H E f c hr tk => (pd_meth T_Setting_can_fall c_Setting (hr.mono (by decide)) tk (argN_cons argN_nil) (dv 2) (pda_cons (dv 5) pda_nil)))) pda_nil)))
    (pdb_cons (pds_append (i := 8) (pnm 8) (pd_lamcall (y := "_law_right") (k := 3) (tb := fun E => (tMethKS (cadr K "Setting") "can_fall" 1 (spP K 2 m_Setting_can_fall_2) (fun vs zs => permL [0, 1] (vs ++ zs)) (WE (fun c d _ H' => E c d H')) (tVar 2) (tCons (tVar 5) tNil))) (L_l_heard.mono (by decide)) mk (hr.mono (by decide)) rfl (by first | rfl | decide +kernel) (LamX.lamS_by (by kernel_rfl)) rfl (fun _ _ _ _ _ => rfl) (fun A outer s H E f c hr tk => (pd_methK KW_Setting_can_fall_1_houses c_Setting (hr.mono (by decide)) tk (argN_cons argN_nil) rfl (fun l h => match l, h with | [_, _], _ => rfl) (dv 2) (pdk_cons (dv 5) pdk_nil)))))
    (pdb_cons (pds_if (pdt_cmpL (i := 8) (op_neD (u64 hr)) opd_ne (pnm 8) (pd_lst (pda_cons (dv 7) (pda_cons (dv 7) pda_nil)))) (pdb_one (pds_ret pd_bl)) pdb_nil)
    (pdb_one (pds_if (pdt_not (pdt_val (pd_callI (i := 0) G_l_pair_right (hr.mono (by decide)) rfl tk (pnm 0) (argN_cons (argN_cons argN_nil)) (pda_cons (dv 1) (pda_cons (dv 2) pda_nil))))) (pdb_one (pds_ret pd_bl)) pdb_nil))))))))))
    (pdb_one (pds_ret (pd_cmp (op_eqD (u64 hr)) opd_eq (pd_strI T_Setting___str__ (hr.mono (by decide)) rfl g_str bt_str (dv 2)) (dv 3))))))))⟩
theorem sc_law : FnScope N_law ["_law_cells"] (defScope st_law) := ⟨rfl, rfl, rfl, by decide +kernel, rfl, by decide +kernel, by decide +kernel⟩
theorem ok_law {f : Addr} {fd : FuncData} (F : FunD K "law" "law" (defArgs st_law) (defBody st_law) (defScope st_law) [] [] f fd) (g_all : mg "all" = none) (g_len : mg "len" = none) (g_min : mg "min" = none) (g_max : mg "max" = none) (g_range : mg "range" = none) (G_l_right : DefI P w K mg base 11 "_law_right" 0 m_k05_l_right) (G_l_jar : DefP P w K mg base 1 "_law_jar" 2 m_l_jar) : FnG P w K mg base (L2.CX P w) 12 f fd ["_law_cells"] (spP K 1 m_k05_law) := by
  have sc := sc_law
  exact fnG_pure (P := P) (w := w) (base := base) (mg := mg) (N := N_law) (ps := ["_law_cells"]) (k := 11) (m := b_k05_law) F sc_law fun cdv A outer s H E hr tk ps => ⟨_,
    (pdb_one (pds_ret (pd_callB (cr_all rfl) cd_all rfl g_all bt_all (pda_cons (pd_lc (wk := false) (own := [("_law_turn", 1)]) (g := (gName 1)) (tt := tYes) (te := (tCallS (spI K 0 m_k05_l_right) (WE W0) (tCons (tCallS (spP K 2 m_l_jar) (WE W0) (tCons (tVar 0) (tCons (tVar 1) tNil))) tNil))) rfl sc.nd (pdi_range1 rfl g_range (pda_cons (pd_callB (call_max2 rfl) cd_max2 rfl g_max bt_max (pda_cons pd_int (pda_cons (pd_callB (call_min2 rfl) cd_min2 rfl g_min bt_min (pda_cons (pd_callB call_len cd_len rfl g_len bt_len (pda_cons (dv 0) pda_nil)) (pda_cons pd_int pda_nil))) pda_nil))) pda_nil)) (blkOk_by (own := [("_law_turn", 1)]) (N := N_law) (sc := defScope st_law) (by decide +kernel)) (fun _ _ _ _ _ => (pdg_name (i := 1) sc.nd rfl (.inl rfl))) (fun _ _ _ _ _ => pdts_nil) (fun _ _ _ _ _ => (pd_callE G_l_right (hr.mono (by decide)) rfl tk0 (pdo_call G_l_jar (hr.mono (by decide)) rfl tk0 (argN_cons (argN_cons argN_nil)) (pda_cons (dv 0) (pda_cons (dv 1) pda_nil))) argN_nil pda_nil))) pda_nil))))⟩
end
end Law_k05
namespace Law_k05
open PySem PySem.Spec PyProof.Rows L2 DD Mi
theorem sc_InvalidHouses_init : FnScope N_InvalidHouses_init ["self", "index"] (defScope st_InvalidHouses_init) := ⟨rfl, rfl, rfl, by decide +kernel, rfl, by decide +kernel, by decide +kernel⟩
theorem sc_InvalidPromises_init : FnScope N_InvalidPromises_init ["self", "index"] (defScope st_InvalidPromises_init) := ⟨rfl, rfl, rfl, by decide +kernel, rfl, by decide +kernel, by decide +kernel⟩
theorem sc_UnknownName_init : FnScope N_UnknownName_init ["self", "given"] (defScope st_UnknownName_init) := ⟨rfl, rfl, rfl, by decide +kernel, rfl, by decide +kernel, by decide +kernel⟩
theorem facts {P : Program} {w : World} {K : PySem.W.Frag} {h : Heap} {mg : Str → Option Value} (X : K.In h) (G : h.Ns mainGlobals mg) (c : SaysX faL fnL K) :
    ∃ fa fd, mg "law" = some (.ref fa) ∧ (∀ (s : Shared) (v : Value), BindsTo s fd ⟨[v], []⟩ [("_law_cells", v)]) ∧ ∀ base : Heap, TabsB K mg base → FnG P w K mg base (L2.CX P w) 12 fa fd ["_law_cells"] (spP K 1 m_k05_law) := by
  have g_len := He.free_ok X G (c.fact 23 (b := faB (.free "len")) rfl)
  have g_int := He.free_ok X G (c.fact 24 (b := faB (.free "int")) rfl)
  have g_abs := He.free_ok X G (c.fact 25 (b := faB (.free "abs")) rfl)
  have g_isinstance := He.free_ok X G (c.fact 26 (b := faB (.free "isinstance")) rfl)
  have g_str := He.free_ok X G (c.fact 27 (b := faB (.free "str")) rfl)
  have g_any := He.free_ok X G (c.fact 28 (b := faB (.free "any")) rfl)
  have g_all := He.free_ok X G (c.fact 29 (b := faB (.free "all")) rfl)
  have g_tuple := He.free_ok X G (c.fact 30 (b := faB (.free "tuple")) rfl)
  have g_enumerate := He.free_ok X G (c.fact 31 (b := faB (.free "enumerate")) rfl)
  have g_set := He.free_ok X G (c.fact 32 (b := faB (.free "set")) rfl)
  have g_sorted := He.free_ok X G (c.fact 33 (b := faB (.free "sorted")) rfl)
  have g_divmod := He.free_ok X G (c.fact 34 (b := faB (.free "divmod")) rfl)
  have g_repr := He.free_ok X G (c.fact 35 (b := faB (.free "repr")) rfl)
  have g_range := He.free_ok X G (c.fact 36 (b := faB (.free "range")) rfl)
  have g_list := He.free_ok X G (c.fact 37 (b := faB (.free "list")) rfl)
  have g_min := He.free_ok X G (c.fact 38 (b := faB (.free "min")) rfl)
  have g_max := He.free_ok X G (c.fact 39 (b := faB (.free "max")) rfl)
  obtain ⟨t_MOST_FAILS, g_MOST_FAILS⟩ := He.int_ok X G (c.fact 40 (b := faB (.int "MOST_FAILS" 8)) rfl)
  obtain ⟨t_MOST_LETTERS, g_MOST_LETTERS⟩ := He.int_ok X G (c.fact 41 (b := faB (.int "MOST_LETTERS" 8)) rfl)
  obtain ⟨t_LETTERS, g_LETTERS⟩ := He.str_ok X G (c.fact 42 (b := faB (.str "LETTERS" "abcdefghijklmnopqrstuvwxyz")) rfl)
  obtain ⟨t_WRITER, g_WRITER⟩ := He.str_ok X G (c.fact 43 (b := faB (.str "WRITER" "w")) rfl)
  obtain ⟨t_MOST_HOUSES, g_MOST_HOUSES⟩ := He.int_ok X G (c.fact 44 (b := faB (.int "MOST_HOUSES" 8)) rfl)
  obtain ⟨t_MOST_READERS, g_MOST_READERS⟩ := He.int_ok X G (c.fact 45 (b := faB (.int "MOST_READERS" 5)) rfl)
  have c_Setting := He.cls_ok (c.fact 46 (b := faB (.cls "Setting")) rfl)
  have n_Setting_houses := He.noat_ok (c.fact 51 (b := faB (.noat "Setting" "houses")) rfl)
  have n_Setting_fails := He.noat_ok (c.fact 52 (b := faB (.noat "Setting" "fails")) rfl)
  have n_Setting_readers := He.noat_ok (c.fact 53 (b := faB (.noat "Setting" "readers")) rfl)
  have n_Setting_promises := He.noat_ok (c.fact 54 (b := faB (.noat "Setting" "promises")) rfl)
  have xo_UnknownName := oexfB_ok (c.fact 57 (b := oexfB "UnknownName" "given") rfl)
  have xo_InvalidPromises := oexfB_ok (c.fact 58 (b := oexfB "InvalidPromises" "index") rfl)
  have xo_InvalidHouses := oexfB_ok (c.fact 59 (b := oexfB "InvalidHouses" "index") rfl)
  obtain ⟨fd_InvalidHouses_init, F_InvalidHouses_init⟩ := c.def_ 28 (d := ⟨maL "InvalidHouses" "__init__", "__init__", "InvalidHouses.__init__", st_InvalidHouses_init⟩) rfl
  have xf_InvalidHouses : ∀ base : Heap, TabsB K mg base → ExF P w K mg base "InvalidHouses" "index" := fun base TB => exf_ok (N := N_InvalidHouses_init) xo_InvalidHouses F_InvalidHouses_init sc_InvalidHouses_init (F_InvalidHouses_init.bindsN fun _ _ _ _ _ _ us hl => match us, hl with | [_, _], _ => rfl) rfl rfl (.inl rfl) (.inl rfl) (by decide) (by decide) (by decide) (by decide) (fun _ => rfl)
  obtain ⟨fd_InvalidPromises_init, F_InvalidPromises_init⟩ := c.def_ 29 (d := ⟨maL "InvalidPromises" "__init__", "__init__", "InvalidPromises.__init__", st_InvalidPromises_init⟩) rfl
  have xf_InvalidPromises : ∀ base : Heap, TabsB K mg base → ExF P w K mg base "InvalidPromises" "index" := fun base TB => exf_ok (N := N_InvalidPromises_init) xo_InvalidPromises F_InvalidPromises_init sc_InvalidPromises_init (F_InvalidPromises_init.bindsN fun _ _ _ _ _ _ us hl => match us, hl with | [_, _], _ => rfl) rfl rfl (.inl rfl) (.inl rfl) (by decide) (by decide) (by decide) (by decide) (fun _ => rfl)
  obtain ⟨fd_UnknownName_init, F_UnknownName_init⟩ := c.def_ 30 (d := ⟨maL "UnknownName" "__init__", "__init__", "UnknownName.__init__", st_UnknownName_init⟩) rfl
  have xf_UnknownName : ∀ base : Heap, TabsB K mg base → ExF P w K mg base "UnknownName" "given" := fun base TB => exf_ok (N := N_UnknownName_init) xo_UnknownName F_UnknownName_init sc_UnknownName_init (F_UnknownName_init.bindsN fun _ _ _ _ _ _ us hl => match us, hl with | [_, _], _ => rfl) rfl rfl (.inl rfl) (.inl rfl) (by decide) (by decide) (by decide) (by decide) (fun _ => rfl)
  have gx_InvalidHouses := He.glo_ok X G (c.fact 60 (b := faB (.glo "InvalidHouses")) rfl)
  have gx_UnknownName := He.glo_ok X G (c.fact 61 (b := faB (.glo "UnknownName")) rfl)
  have gx_InvalidPromises := He.glo_ok X G (c.fact 62 (b := faB (.glo "InvalidPromises")) rfl)
  have xm_UnknownName_UnknownName := exmB_ok (c.fact 63 (b := exmB "UnknownName" "UnknownName" true) rfl)
  have xm_InvalidPromises_UnknownName := exmB_ok (c.fact 64 (b := exmB "InvalidPromises" "UnknownName" false) rfl)
  have xm_InvalidHouses_UnknownName := exmB_ok (c.fact 65 (b := exmB "InvalidHouses" "UnknownName" false) rfl)
  have xm_UnknownName_InvalidPromises := exmB_ok (c.fact 66 (b := exmB "UnknownName" "InvalidPromises" false) rfl)
  have xm_InvalidPromises_InvalidPromises := exmB_ok (c.fact 67 (b := exmB "InvalidPromises" "InvalidPromises" true) rfl)
  have xm_InvalidHouses_InvalidPromises := exmB_ok (c.fact 68 (b := exmB "InvalidHouses" "InvalidPromises" false) rfl)
  have xm_UnknownName_InvalidHouses := exmB_ok (c.fact 69 (b := exmB "UnknownName" "InvalidHouses" false) rfl)
  have xm_InvalidPromises_InvalidHouses := exmB_ok (c.fact 70 (b := exmB "InvalidPromises" "InvalidHouses" false) rfl)
  have xm_InvalidHouses_InvalidHouses := exmB_ok (c.fact 71 (b := exmB "InvalidHouses" "InvalidHouses" true) rfl)
  obtain ⟨fd_l_jar, F_l_jar⟩ := c.def_ 0 (d := ⟨gaL "_law_jar", "_law_jar", "_law_jar", st_l_jar⟩) rfl
  have D_l_jar : ∀ base : Heap, TabsB K mg base → FnD P w K mg base 1 (gaL "_law_jar" K) (spP K 2 m_l_jar) := fun base TB => ok_l_jar F_l_jar g_len g_int g_abs
  have G_l_jar : ∀ base : Heap, TabsB K mg base → DefP P w K mg base 1 "_law_jar" 2 m_l_jar := fun base TB => ⟨_, He.glo_ok X G (c.fact 0 (b := faB (.glo "_law_jar")) rfl), D_l_jar base TB⟩
  obtain ⟨fd_Setting___str__, F_Setting___str__⟩ := c.def_ 1 (d := ⟨maL "Setting" "__str__", "__str__", "Setting.__str__", st_Setting___str__⟩) rfl
  have D_Setting___str__ : ∀ base : Heap, TabsB K mg base → FnD P w K mg base 1 (maL "Setting" "__str__" K) (spP K 1 m_Setting___str__) := fun base TB => ok_Setting___str__ F_Setting___str__ c_Setting n_Setting_houses n_Setting_fails n_Setting_readers n_Setting_promises
  have T_Setting___str__ : ∀ base : Heap, TabsB K mg base → MethD P w K mg base 1 "Setting" "__str__" 1 m_Setting___str__ := fun base TB => by
    obtain ⟨fd, ps, kp, b, FF⟩ := (D_Setting___str__ base TB).ex
    exact ⟨_, fd, ps, He.meth_ok (c.fact 47 (b := faB (.meth "Setting" "__str__")) rfl), b, FF⟩
  obtain ⟨fd_is_one_of, F_is_one_of⟩ := c.def_ 2 (d := ⟨gaL "is_one_of", "is_one_of", "is_one_of", st_is_one_of⟩) rfl
  have D_is_one_of : ∀ base : Heap, TabsB K mg base → FnD P w K mg base 1 (gaL "is_one_of" K) (spP K 2 m_is_one_of) := fun base TB => ok_is_one_of F_is_one_of g_isinstance g_str
  have G_is_one_of : ∀ base : Heap, TabsB K mg base → DefP P w K mg base 1 "is_one_of" 2 m_is_one_of := fun base TB => ⟨_, He.glo_ok X G (c.fact 1 (b := faB (.glo "is_one_of")) rfl), D_is_one_of base TB⟩
  obtain ⟨fd_may_fall, F_may_fall⟩ := c.def_ 3 (d := ⟨gaL "may_fall", "may_fall", "may_fall", st_may_fall⟩) rfl
  have D_may_fall : ∀ base : Heap, TabsB K mg base → FnD P w K mg base 1 (gaL "may_fall" K) (spP K 2 m_may_fall) := fun base TB => ok_may_fall F_may_fall g_any c_Setting n_Setting_fails g_all
  have G_may_fall : ∀ base : Heap, TabsB K mg base → DefP P w K mg base 1 "may_fall" 2 m_may_fall := fun base TB => ⟨_, He.glo_ok X G (c.fact 2 (b := faB (.glo "may_fall")) rfl), D_may_fall base TB⟩
  obtain ⟨fd_Setting_can_fall, F_Setting_can_fall⟩ := c.def_ 4 (d := ⟨maL "Setting" "can_fall", "can_fall", "Setting.can_fall", st_Setting_can_fall⟩) rfl
  have D_Setting_can_fall : ∀ base : Heap, TabsB K mg base → FnD P w K mg base 3 (maL "Setting" "can_fall" K) (spP K 2 m_Setting_can_fall_2) := fun base TB => ok_Setting_can_fall F_Setting_can_fall g_isinstance g_tuple (xf_InvalidHouses base TB) gx_InvalidHouses g_enumerate (G_is_one_of base TB) c_Setting n_Setting_houses (G_may_fall base TB)
  have T_Setting_can_fall : ∀ base : Heap, TabsB K mg base → MethD P w K mg base 3 "Setting" "can_fall" 2 m_Setting_can_fall_2 := fun base TB => by
    obtain ⟨fd, ps, kp, b, FF⟩ := (D_Setting_can_fall base TB).ex
    exact ⟨_, fd, ps, He.meth_ok (c.fact 48 (b := faB (.meth "Setting" "can_fall")) rfl), b, FF⟩
  have KW_Setting_can_fall_1_houses : ∀ base : Heap, TabsB K mg base → MethPK P w K mg base 3 "Setting" "can_fall" ["houses"] [0, 1] 2 m_Setting_can_fall_2 := fun base TB => ⟨_, fd_Setting_can_fall, _, He.meth_ok (c.fact 48 (b := faB (.meth "Setting" "can_fall")) rfl), kbn_of F_Setting_can_fall 1 _ _ (fun _ _ _ _ _ _ us ws h1 h2 => match us, ws, h1, h2 with | [_], [_], _, _ => rfl), okG_Setting_can_fall F_Setting_can_fall g_isinstance g_tuple (xf_InvalidHouses base TB) gx_InvalidHouses g_enumerate (G_is_one_of base TB) c_Setting n_Setting_houses (G_may_fall base TB)⟩
  obtain ⟨fd_are_different, F_are_different⟩ := c.def_ 5 (d := ⟨gaL "are_different", "are_different", "are_different", st_are_different⟩) rfl
  have D_are_different : ∀ base : Heap, TabsB K mg base → FnD P w K mg base 2 (gaL "are_different" K) (spP K 2 m_are_different) := fun base TB => ok_are_different F_are_different g_isinstance g_tuple g_all (G_is_one_of base TB) g_len g_set
  have G_are_different : ∀ base : Heap, TabsB K mg base → DefP P w K mg base 2 "are_different" 2 m_are_different := fun base TB => ⟨_, He.glo_ok X G (c.fact 3 (b := faB (.glo "are_different")) rfl), D_are_different base TB⟩
  obtain ⟨fd_in_order, F_in_order⟩ := c.def_ 6 (d := ⟨gaL "in_order", "in_order", "in_order", st_in_order⟩) rfl
  have D_in_order : ∀ base : Heap, TabsB K mg base → FnD P w K mg base 1 (gaL "in_order" K) (spP K 2 m_in_order) := fun base TB => ok_in_order F_in_order g_sorted
  have G_in_order : ∀ base : Heap, TabsB K mg base → DefP P w K mg base 1 "in_order" 2 m_in_order := fun base TB => ⟨_, He.glo_ok X G (c.fact 4 (b := faB (.glo "in_order")) rfl), D_in_order base TB⟩
  obtain ⟨fd_fails_until, F_fails_until⟩ := c.def_ 7 (d := ⟨gaL "fails_until", "fails_until", "fails_until", st_fails_until⟩) rfl
  have D_fails_until : ∀ base : Heap, TabsB K mg base → FnD P w K mg base 3 (gaL "fails_until" K) (spP K 2 m_fails_until) := fun base TB => ok_fails_until F_fails_until g_enumerate g_MOST_FAILS (G_are_different base TB) (G_in_order base TB)
  have G_fails_until : ∀ base : Heap, TabsB K mg base → DefP P w K mg base 3 "fails_until" 2 m_fails_until := fun base TB => ⟨_, He.glo_ok X G (c.fact 5 (b := faB (.glo "fails_until")) rfl), D_fails_until base TB⟩
  obtain ⟨fd_is_name, F_is_name⟩ := c.def_ 8 (d := ⟨gaL "is_name", "is_name", "is_name", st_is_name⟩) rfl
  have D_is_name : ∀ base : Heap, TabsB K mg base → FnD P w K mg base 1 (gaL "is_name" K) (spP K 1 m_is_name) := fun base TB => ok_is_name F_is_name g_isinstance g_str g_len g_MOST_LETTERS g_all g_LETTERS
  have G_is_name : ∀ base : Heap, TabsB K mg base → DefP P w K mg base 1 "is_name" 1 m_is_name := fun base TB => ⟨_, He.glo_ok X G (c.fact 6 (b := faB (.glo "is_name")) rfl), D_is_name base TB⟩
  obtain ⟨fd_is_client_name, F_is_client_name⟩ := c.def_ 9 (d := ⟨gaL "is_client_name", "is_client_name", "is_client_name", st_is_client_name⟩) rfl
  have D_is_client_name : ∀ base : Heap, TabsB K mg base → FnD P w K mg base 2 (gaL "is_client_name" K) (spP K 1 m_is_client_name) := fun base TB => ok_is_client_name F_is_client_name (G_is_name base TB) g_WRITER
  have G_is_client_name : ∀ base : Heap, TabsB K mg base → DefP P w K mg base 2 "is_client_name" 1 m_is_client_name := fun base TB => ⟨_, He.glo_ok X G (c.fact 7 (b := faB (.glo "is_client_name")) rfl), D_is_client_name base TB⟩
  obtain ⟨fd_names_until, F_names_until⟩ := c.def_ 10 (d := ⟨gaL "names_until", "names_until", "names_until", st_names_until⟩) rfl
  have D_names_until : ∀ base : Heap, TabsB K mg base → FnD P w K mg base 3 (gaL "names_until" K) (spP K 3 m_names_until) := fun base TB => ok_names_until F_names_until g_enumerate (G_is_client_name base TB)
  have G_names_until : ∀ base : Heap, TabsB K mg base → DefP P w K mg base 3 "names_until" 3 m_names_until := fun base TB => ⟨_, He.glo_ok X G (c.fact 8 (b := faB (.glo "names_until")) rfl), D_names_until base TB⟩
  obtain ⟨fd_is_pair, F_is_pair⟩ := c.def_ 11 (d := ⟨gaL "is_pair", "is_pair", "is_pair", st_is_pair⟩) rfl
  have D_is_pair : ∀ base : Heap, TabsB K mg base → FnD P w K mg base 3 (gaL "is_pair" K) (spP K 2 m_is_pair) := fun base TB => ok_is_pair F_is_pair (G_are_different base TB) g_len
  have G_is_pair : ∀ base : Heap, TabsB K mg base → DefP P w K mg base 3 "is_pair" 2 m_is_pair := fun base TB => ⟨_, He.glo_ok X G (c.fact 9 (b := faB (.glo "is_pair")) rfl), D_is_pair base TB⟩
  obtain ⟨fd_promises_until, F_promises_until⟩ := c.def_ 12 (d := ⟨gaL "promises_until", "promises_until", "promises_until", st_promises_until⟩) rfl
  have D_promises_until : ∀ base : Heap, TabsB K mg base → FnD P w K mg base 4 (gaL "promises_until" K) (spP K 2 m_promises_until) := fun base TB => ok_promises_until F_promises_until g_enumerate (G_is_pair base TB)
  have G_promises_until : ∀ base : Heap, TabsB K mg base → DefP P w K mg base 4 "promises_until" 2 m_promises_until := fun base TB => ⟨_, He.glo_ok X G (c.fact 10 (b := faB (.glo "promises_until")) rfl), D_promises_until base TB⟩
  obtain ⟨fd_Setting_init, F_Setting_init⟩ := c.def_ 13 (d := ⟨maL "Setting" "__init__", "__init__", "Setting.__init__", st_Setting_init⟩) rfl
  have D_Setting_init : ∀ base : Heap, TabsB K mg base → FnD P w K mg base 5 (maL "Setting" "__init__" K) (spI K 4 m_Setting_init) := fun base TB => ok_Setting_init F_Setting_init g_isinstance g_tuple (G_names_until base TB) g_MOST_HOUSES (G_fails_until base TB) g_MOST_READERS (G_promises_until base TB) c_Setting n_Setting_houses n_Setting_fails n_Setting_readers n_Setting_promises
  have M_Setting : ∀ base : Heap, TabsB K mg base → MakeD P w K mg base 5 "Setting" "Setting" 4 m_Setting_init := fun base TB => ⟨He.glo_ok X G (c.fact 55 (b := faB (.glo "Setting")) rfl), _, He.mkr_ok (c.fact 56 (b := faB (.mkr "Setting")) rfl), D_Setting_init base TB⟩
  obtain ⟨fd_l_built, F_l_built⟩ := c.def_ 14 (d := ⟨gaL "_law_built", "_law_built", "_law_built", st_l_built⟩) rfl
  have D_l_built : ∀ base : Heap, TabsB K mg base → FnD P w K mg base 7 (gaL "_law_built" K) (spP K 1 m_l_built) := fun base TB => ok_l_built F_l_built (M_Setting base TB) g_tuple
  have G_l_built : ∀ base : Heap, TabsB K mg base → DefP P w K mg base 7 "_law_built" 1 m_l_built := fun base TB => ⟨_, He.glo_ok X G (c.fact 11 (b := faB (.glo "_law_built")) rfl), D_l_built base TB⟩
  obtain ⟨fd_l_dip, F_l_dip⟩ := c.def_ 15 (d := ⟨gaL "_law_dip", "_law_dip", "_law_dip", st_l_dip⟩) rfl
  have D_l_dip : ∀ base : Heap, TabsB K mg base → FnD P w K mg base 1 (gaL "_law_dip" K) (spI K 1 m_l_dip) := fun base TB => ok_l_dip F_l_dip g_divmod g_int
  have G_l_dip : ∀ base : Heap, TabsB K mg base → DefI P w K mg base 1 "_law_dip" 1 m_l_dip := fun base TB => ⟨_, He.glo_ok X G (c.fact 12 (b := faB (.glo "_law_dip")) rfl), D_l_dip base TB⟩
  obtain ⟨fd_l_falls, F_l_falls⟩ := c.def_ 16 (d := ⟨gaL "_law_falls", "_law_falls", "_law_falls", st_l_falls⟩) rfl
  have D_l_falls : ∀ base : Heap, TabsB K mg base → FnD P w K mg base 1 (gaL "_law_falls" K) (spP K 2 m_l_falls) := fun base TB => ok_l_falls F_l_falls g_any g_all
  have G_l_falls : ∀ base : Heap, TabsB K mg base → DefP P w K mg base 1 "_law_falls" 2 m_l_falls := fun base TB => ⟨_, He.glo_ok X G (c.fact 13 (b := faB (.glo "_law_falls")) rfl), D_l_falls base TB⟩
  obtain ⟨fd_l_falls_due, F_l_falls_due⟩ := c.def_ 17 (d := ⟨gaL "_law_falls_due", "_law_falls_due", "_law_falls_due", st_l_falls_due⟩) rfl
  have D_l_falls_due : ∀ base : Heap, TabsB K mg base → FnD P w K mg base 2 (gaL "_law_falls_due" K) (spP K 2 m_l_falls_due) := fun base TB => ok_l_falls_due F_l_falls_due g_isinstance g_tuple g_enumerate g_str g_repr (G_l_falls base TB)
  have G_l_falls_due : ∀ base : Heap, TabsB K mg base → DefP P w K mg base 2 "_law_falls_due" 2 m_l_falls_due := fun base TB => ⟨_, He.glo_ok X G (c.fact 14 (b := faB (.glo "_law_falls_due")) rfl), D_l_falls_due base TB⟩
  obtain ⟨fd_l_one_of, F_l_one_of⟩ := c.def_ 18 (d := ⟨gaL "_law_one_of", "_law_one_of", "_law_one_of", st_l_one_of⟩) rfl
  have D_l_one_of : ∀ base : Heap, TabsB K mg base → FnD P w K mg base 2 (gaL "_law_one_of" K) (spI K 1 m_l_one_of) := fun base TB => ok_l_one_of F_l_one_of (G_l_dip base TB) g_len
  have G_l_one_of : ∀ base : Heap, TabsB K mg base → DefI P w K mg base 2 "_law_one_of" 1 m_l_one_of := fun base TB => ⟨_, He.glo_ok X G (c.fact 15 (b := faB (.glo "_law_one_of")) rfl), D_l_one_of base TB⟩
  obtain ⟨fd_l_labels, F_l_labels⟩ := c.def_ 19 (d := ⟨gaL "_law_labels", "_law_labels", "_law_labels", st_l_labels⟩) rfl
  have D_l_labels : ∀ base : Heap, TabsB K mg base → FnD P w K mg base 3 (gaL "_law_labels" K) (spI K 0 m_l_labels) := fun base TB => ok_l_labels F_l_labels (G_l_dip base TB) (G_l_one_of base TB) g_range g_int
  have G_l_labels : ∀ base : Heap, TabsB K mg base → DefI P w K mg base 3 "_law_labels" 0 m_l_labels := fun base TB => ⟨_, He.glo_ok X G (c.fact 16 (b := faB (.glo "_law_labels")) rfl), D_l_labels base TB⟩
  obtain ⟨fd_l_some_of, F_l_some_of⟩ := c.def_ 20 (d := ⟨gaL "_law_some_of", "_law_some_of", "_law_some_of", st_l_some_of⟩) rfl
  have D_l_some_of : ∀ base : Heap, TabsB K mg base → FnD P w K mg base 2 (gaL "_law_some_of" K) (spI K 1 m_l_some_of) := fun base TB => ok_l_some_of F_l_some_of (G_l_dip base TB)
  have G_l_some_of : ∀ base : Heap, TabsB K mg base → DefI P w K mg base 2 "_law_some_of" 1 m_l_some_of := fun base TB => ⟨_, He.glo_ok X G (c.fact 17 (b := faB (.glo "_law_some_of")) rfl), D_l_some_of base TB⟩
  obtain ⟨fd_l_frame, F_l_frame⟩ := c.def_ 21 (d := ⟨gaL "_law_frame", "_law_frame", "_law_frame", st_l_frame⟩) rfl
  have D_l_frame : ∀ base : Heap, TabsB K mg base → FnD P w K mg base 4 (gaL "_law_frame" K) (spI K 2 m_l_frame) := fun base TB => ok_l_frame F_l_frame (G_l_labels base TB) (G_l_dip base TB) g_range (G_l_some_of base TB) (G_l_one_of base TB) g_tuple
  have G_l_frame : ∀ base : Heap, TabsB K mg base → DefI P w K mg base 4 "_law_frame" 2 m_l_frame := fun base TB => ⟨_, He.glo_ok X G (c.fact 18 (b := faB (.glo "_law_frame")) rfl), D_l_frame base TB⟩
  obtain ⟨fd_l_heard, F_l_heard⟩ := c.def_ 22 (d := ⟨gaL "_law_heard", "_law_heard", "_law_heard", st_l_heard⟩) rfl
  have L_l_heard : ∀ base : Heap, TabsB K mg base → LamD P w K mg base 3 "_law_heard" r_l_heard_4 := fun base TB => okL_l_heard (He.glo_ok X G (c.fact 19 (b := faB (.glo "_law_heard")) rfl)) F_l_heard gx_UnknownName xm_UnknownName_UnknownName xm_InvalidPromises_UnknownName xm_InvalidHouses_UnknownName xo_UnknownName g_repr gx_InvalidPromises xm_UnknownName_InvalidPromises xm_InvalidPromises_InvalidPromises xm_InvalidHouses_InvalidPromises xo_InvalidPromises gx_InvalidHouses xm_UnknownName_InvalidHouses xm_InvalidPromises_InvalidHouses xm_InvalidHouses_InvalidHouses xo_InvalidHouses (T_Setting___str__ base TB) g_str
  obtain ⟨fd_Setting_joined, F_Setting_joined⟩ := c.def_ 23 (d := ⟨maL "Setting" "joined", "joined", "Setting.joined", st_Setting_joined⟩) rfl
  have D_Setting_joined : ∀ base : Heap, TabsB K mg base → FnD P w K mg base 7 (maL "Setting" "joined" K) (spP K 2 m_Setting_joined) := fun base TB => ok_Setting_joined F_Setting_joined (G_is_pair base TB) c_Setting n_Setting_readers (xf_InvalidPromises base TB) gx_InvalidPromises g_len n_Setting_promises (M_Setting base TB) n_Setting_houses n_Setting_fails
  have T_Setting_joined : ∀ base : Heap, TabsB K mg base → MethD P w K mg base 7 "Setting" "joined" 2 m_Setting_joined := fun base TB => by
    obtain ⟨fd, ps, kp, b, FF⟩ := (D_Setting_joined base TB).ex
    exact ⟨_, fd, ps, He.meth_ok (c.fact 49 (b := faB (.meth "Setting" "joined")) rfl), b, FF⟩
  have KW_Setting_joined_1_promise : ∀ base : Heap, TabsB K mg base → MethPK P w K mg base 7 "Setting" "joined" ["promise"] [0, 1] 2 m_Setting_joined := fun base TB => ⟨_, fd_Setting_joined, _, He.meth_ok (c.fact 49 (b := faB (.meth "Setting" "joined")) rfl), kbn_of F_Setting_joined 1 _ _ (fun _ _ _ _ _ _ us ws h1 h2 => match us, ws, h1, h2 with | [_], [_], _, _ => rfl), okG_Setting_joined F_Setting_joined (G_is_pair base TB) c_Setting n_Setting_readers (xf_InvalidPromises base TB) gx_InvalidPromises g_len n_Setting_promises (M_Setting base TB) n_Setting_houses n_Setting_fails⟩
  obtain ⟨fd_Setting_without, F_Setting_without⟩ := c.def_ 24 (d := ⟨maL "Setting" "without", "without", "Setting.without", st_Setting_without⟩) rfl
  have D_Setting_without : ∀ base : Heap, TabsB K mg base → FnD P w K mg base 7 (maL "Setting" "without" K) (spP K 2 m_Setting_without_2) := fun base TB => ok_Setting_without F_Setting_without (G_is_pair base TB) c_Setting n_Setting_readers n_Setting_promises (xf_UnknownName base TB) gx_UnknownName g_tuple (M_Setting base TB) n_Setting_houses n_Setting_fails
  have T_Setting_without : ∀ base : Heap, TabsB K mg base → MethD P w K mg base 7 "Setting" "without" 2 m_Setting_without_2 := fun base TB => by
    obtain ⟨fd, ps, kp, b, FF⟩ := (D_Setting_without base TB).ex
    exact ⟨_, fd, ps, He.meth_ok (c.fact 50 (b := faB (.meth "Setting" "without")) rfl), b, FF⟩
  have KW_Setting_without_1_promise : ∀ base : Heap, TabsB K mg base → MethPK P w K mg base 7 "Setting" "without" ["promise"] [0, 1] 2 m_Setting_without_2 := fun base TB => ⟨_, fd_Setting_without, _, He.meth_ok (c.fact 50 (b := faB (.meth "Setting" "without")) rfl), kbn_of F_Setting_without 1 _ _ (fun _ _ _ _ _ _ us ws h1 h2 => match us, ws, h1, h2 with | [_], [_], _, _ => rfl), okG_Setting_without F_Setting_without (G_is_pair base TB) c_Setting n_Setting_readers n_Setting_promises (xf_UnknownName base TB) gx_UnknownName g_tuple (M_Setting base TB) n_Setting_houses n_Setting_fails⟩
  obtain ⟨fd_l_pair_right, F_l_pair_right⟩ := c.def_ 25 (d := ⟨gaL "_law_pair_right", "_law_pair_right", "_law_pair_right", st_l_pair_right⟩) rfl
  have MK_l_pair_right : ∀ base : Heap, TabsB K mg base → ∀ cdv : Value, PySem.W.codeIn K cdv "_law_pair_right" = true → fd_l_pair_right.code = cdv → MkD K mg base cdv "_law_pair_right" := fun base TB cdv h1 h2 => mkD_of F_l_pair_right rfl h1 h2 TB (by decide) (c.fact 72 (b := mkB "_law_pair_right") rfl)
  have D_l_pair_right : ∀ base : Heap, TabsB K mg base → FnD P w K mg base 10 (gaL "_law_pair_right" K) (spI K 2 m_l_pair_right) := fun base TB => ok_l_pair_right F_l_pair_right (G_l_one_of base TB) g_range g_isinstance g_tuple g_len g_repr (T_Setting___str__ base TB) g_str (G_l_built base TB) (L_l_heard base TB) (MK_l_pair_right base TB) c_Setting (T_Setting_joined base TB) (KW_Setting_joined_1_promise base TB) (T_Setting_without base TB) (KW_Setting_without_1_promise base TB)
  have G_l_pair_right : ∀ base : Heap, TabsB K mg base → DefI P w K mg base 10 "_law_pair_right" 2 m_l_pair_right := fun base TB => ⟨_, He.glo_ok X G (c.fact 20 (b := faB (.glo "_law_pair_right")) rfl), D_l_pair_right base TB⟩
  obtain ⟨fd_l_right, F_l_right⟩ := c.def_ 26 (d := ⟨gaL "_law_right", "_law_right", "_law_right", st_l_right⟩) rfl
  have MK_l_right : ∀ base : Heap, TabsB K mg base → ∀ cdv : Value, PySem.W.codeIn K cdv "_law_right" = true → fd_l_right.code = cdv → MkD K mg base cdv "_law_right" := fun base TB cdv h1 h2 => mkD_of F_l_right rfl h1 h2 TB (by decide) (c.fact 73 (b := mkB "_law_right") rfl)
  have D_l_right : ∀ base : Heap, TabsB K mg base → FnD P w K mg base 11 (gaL "_law_right" K) (spI K 0 m_k05_l_right) := fun base TB => ok_l_right F_l_right (G_l_frame base TB) (G_l_built base TB) (T_Setting___str__ base TB) g_str g_range (G_l_some_of base TB) (G_l_dip base TB) g_list g_tuple (G_l_one_of base TB) (G_l_falls_due base TB) (L_l_heard base TB) (MK_l_right base TB) c_Setting (T_Setting_can_fall base TB) (KW_Setting_can_fall_1_houses base TB) (G_l_pair_right base TB)
  have G_l_right : ∀ base : Heap, TabsB K mg base → DefI P w K mg base 11 "_law_right" 0 m_k05_l_right := fun base TB => ⟨_, He.glo_ok X G (c.fact 21 (b := faB (.glo "_law_right")) rfl), D_l_right base TB⟩
  obtain ⟨fd_law, F_law⟩ := c.def_ 27 (d := ⟨gaL "law", "law", "law", st_law⟩) rfl
  refine ⟨_, fd_law, He.glo_ok X G (c.fact 22 (b := faB (.glo "law")) rfl), ?_, fun base TB => ?_⟩
  · have b := FunD.bindsA (ps := ["_law_cells"]) F_law fun _ _ _ _ _ _ us hl => match us, hl with | [_], _ => rfl
    exact fun s v => b s [v] rfl
  · exact ok_law F_law g_all g_len g_min g_max g_range (G_l_right base TB) (G_l_jar base TB)
end Law_k05
set_option maxHeartbeats 2000000
namespace DD
open PySem PySem.Spec PyProof.Rows L2
/-- nothing but frozen lists and empty tables -/
def OnlyT (ts : List (Addr × Addr)) (H : Hp) : Prop := ∀ b, H b = none ∨ (b ∈ ts.map Prod.snd ∧ H b = some (.tbl #[])) ∨ ∃ o xs, H b = some (.frz o (.lst xs))
/-- the law's call, tables and all -/
theorem law_callGT {P : Program} {w : World} {K : PySem.W.Frag} {mg mb : Str → Option Value} {CX : CXT} {k : Nat} {fa a : Addr} {ts : List (Addr × Addr)} {fd : FuncData} {x : Str} {sp : Sp} {s₁ : Shared} {vs : List Value} {ns : List Int}
    (inK : K.In s₁.heap) (nsG : s₁.heap.Ns mainGlobals mg) (nsB : s₁.heap.Ns builtinsNs mb) (bbt : ∀ x : Str, x ≠ "__name__" → mb x = bootBuiltins x) (lim : s₁.heap.NoLimit) (gen0 : s₁.gens = #[]) (ta : TabsAt K s₁.heap ts)
    (mod : ∃ (bm : Addr) (ob : Obj), mg "__builtins__" = some (.ref bm) ∧ bm ≠ builtinsNs ∧ s₁.heap.get? bm = some ob ∧ ob.cls = .type "module" ∧ ob.dict = some builtinsNs ∧ ob.data = .plain)
    (oa : s₁.heap.get? a = some { cls := .type "list", data := .seq vs.toArray }) (isI : IntsAre vs ns) (short : ns.length ≤ sizeLine) (room : Room k callerA)
    (fn : ∀ base : Heap, K.In base → base.Ns mainGlobals mg → (∀ p ∈ ts, LamX.TabB base mg p.1 p.2) → FnG P w K mg base CX k fa fd [x] sp) (bnd : ∀ (s : Shared) (u : Value), BindsTo s fd ⟨[u], []⟩ [(x, u)])
    (spec : ∀ H : Hp, OnlyT ts H → (∀ p ∈ ts, H p.2 = some (.tbl #[])) → SqL K H a (ns.map V.int) → sp [.ref a] H (fun v _ => v = .bl true) fun _ _ _ => False)
    (noE : ∀ H e s', CX [] H s₁ (fun _ _ _ => False) e s' → False) :
    codeAny (model P w) callerA (.call (.ref fa) ⟨[.ref a], []⟩) (fun r s' => r = .ok (.ret (.bool true)) ∧ OldK s₁.heap s'.heap ∧ s'.os = s₁.os ∧ AllBare s'.gens) s₁ := by
  -- the script is no table
  have na : a ∉ ts.map Prod.snd := fun z => by
    have q := (ta.at_ z).1
    rw [oa] at q
    cases q
  have go : ∀ H : Hp, OnlyT ts H → (∀ b ∈ ts.map Prod.snd, H b = some (.tbl #[])) → SqL K H a (ns.map V.int) → HOk P w H s₁.heap → (∀ b u, H b = some u → b ∈ ts.map Prod.snd ∨ (b = a ∧ K.lookup a = none)) →
      codeAny (model P w) callerA (.call (.ref fa) ⟨[.ref a], []⟩) (fun r s' => r = .ok (.ret (.bool true)) ∧ OldK s₁.heap s'.heap ∧ s'.os = s₁.os ∧ AllBare s'.gens) s₁ := fun H only tabs sq ok dom => by
    have keepT : ∀ {b : Addr} {o : Obj}, s₁.heap.get? b = some o → (∀ us n, o.data ≠ .seq us n) → o.data ≠ .fields #[] → (hidT s₁.heap H).get? b = some o := fun {b o} e n1 n2 => by
      refine hidT_get e ?_
      cases q : H b with
      | none => rfl
      | some u =>
        rcases dom b u q with z | ⟨z, _⟩
        · rw [(ta.at_ z).1] at e
          cases e
          exact absurd rfl n2
        · rw [z, oa] at e
          cases e
          exact absurd rfl (n1 vs.toArray 0)
    have keepN : ∀ {b : Addr} {m : Str → Option Value}, s₁.heap.Ns b m → (hidT s₁.heap H).Ns b m := fun {b m} z => by
      obtain ⟨o, es, ep, e, d, r⟩ := z
      refine ⟨o, es, ep, keepT e (fun us n q => ?_) (fun q => ?_), d, r⟩ <;> (rw [d] at q; cases q)
    have kb : K.In (hidT s₁.heap H) := fun b o e => by
      refine hidT_get (inK b o e) ?_
      cases q : H b with
      | none => rfl
      | some u =>
        rcases dom b u q with z | ⟨z, z2⟩
        · rw [(ta.at_ z).2] at e
          cases e
        · rw [z, z2] at e
          cases e
    have md : Mod K mg (hidT s₁.heap H) := ⟨kb, keepN nsG, ⟨mb, keepN nsB, bbt⟩, by
      obtain ⟨mc, z1, z2⟩ := lim
      exact ⟨mc, keepN z1, z2⟩⟩
    have tabB : ∀ p ∈ ts, LamX.TabB (hidT s₁.heap H) mg p.1 p.2 := fun p hp => by
      have eT := ta.em p hp
      constructor
      · obtain ⟨o, us, file, tf, flags, tg, inF, text, tt, e1, r1, r2, r3, rest⟩ := ta.cd p hp
        refine ⟨o, us, file, tf, flags, tg, inF, text, tt, keepT e1 (fun us n q => ?_) (fun q => ?_), r1, r2, r3, rest⟩
        · rw [r2] at q
          cases q
        · rw [r2] at q
          cases q
          cases r3
      · obtain ⟨bm, ob, b1, b2, b3, b4, b5, b6⟩ := mod
        refine ⟨bm, ob, b1, b2, fun q => ?_, fun q => ?_, keepT b3 (fun us n q => ?_) (fun q => ?_), b4, b5, b6⟩
        · obtain ⟨o, es, ep, e, d, _⟩ := nsG
          rw [q, e] at b3
          cases b3
          rw [d] at b6
          cases b6
        · rw [q, eT] at b3
          cases b3
          cases b6
        · rw [b6] at q
          cases q
        · rw [b6] at q
          cases q
      · intro q
        obtain ⟨o, es, ep, e, d, _⟩ := nsG
        rw [q, eT] at e
        cases e
        cases d
    have e0 : Env0 P w K mg (hidT s₁.heap H) callerA [] s₁ H := by
      constructor
      · rfl
      · exact md
      · exact fun b o e => of_hidT e
      · exact Nat.le_of_eq (hidT_size _ _)
      · trivial
      · exact fun b z => absurd (show b ∈ ([] : List Addr) from z) List.not_mem_nil
      · exact ok
      · exact .of_eq gen0
    have run := (fn _ kb (keepN nsG) tabB).run callerA [] s₁ H ⟨[.ref a], []⟩ [.ref a] [.ref a] (fun v _ => v = .bl true) (fun _ _ _ => False) (roam_caller room) e0 (bnd s₁ (.ref a)) (.cons rfl .nil) (spec H only (fun p hp => tabs p.2 (List.mem_map.mpr ⟨p, hp, rfl⟩)) sq)
    refine codeAny_mono run fun r s' h => ?_
    match r, h with
    | .error e, h => exact (noE H e s' h).elim
    | .ok (.ret u), ⟨v, H', hos, hbare, un, ok', rv, q⟩ =>
      have q' : v = .bl true := q
      subst q'
      have eu : u = Value.bool true := rv
      subst eu
      have stays : ∀ b o, b ∉ ts.map Prod.snd → s₁.heap.get? b = some o → s'.heap.get? b = some o := fun b o nb e => by
        rcases only b with z | z | ⟨ob, xs, z⟩
        · exact un.keep b o e z (fun m => absurd (show b ∈ ([] : List Addr) from m) List.not_mem_nil) List.not_mem_nil
        · exact absurd z.1 nb
        · have w1 := (ok b _ z).1
          have w2 := (ok' b _ (un.frzs b ob _ z)).1
          rw [e] at w1
          rw [w2, ← w1]
      have larger : ∀ b ∈ ts.map Prod.snd, ∃ more : Array Value, s'.heap.get? b = some { cls := .none, data := .fields more } := fun b hb => by
        obtain ⟨more, z⟩ := un.tbls b #[] (tabs b hb)
        exact ⟨_, ok' b _ z⟩
      refine ⟨rfl, ⟨fun b o e => ?_, fun b o e => ?_⟩, hos, hbare⟩
      · by_cases nb : b ∈ ts.map Prod.snd
        · obtain ⟨more, hm⟩ := larger b nb
          obtain ⟨p, hp, rfl⟩ := List.mem_map.mp nb
          have eT := ta.em p hp
          rw [e] at eT
          cases eT
          refine .inr (.inl ⟨((ta.cd p hp).tab (ta.em p hp)).isCodeTable, rfl, #[], more, rfl, ?_⟩)
          rw [Array.empty_append]
          exact hm
        · exact .inl (stays b o nb e)
      · by_cases nb : b ∈ ts.map Prod.snd
        · obtain ⟨more, hm⟩ := larger b nb
          exact ⟨_, hm⟩
        · exact ⟨o, stays b o nb e⟩
  have rv := vals_ints isI
  have hlen := isI.length
  let H0 : Hp := fun b => if b ∈ ts.map Prod.snd then some (.tbl #[]) else none
  have in0 : ∀ b, b ∈ ts.map Prod.snd → H0 b = some (.tbl #[]) := fun b z => if_pos z
  have out0 : ∀ b, b ∉ ts.map Prod.snd → H0 b = none := fun b z => if_neg z
  have dom0 : ∀ b u, H0 b = some u → b ∈ ts.map Prod.snd := fun b u q => by
    by_cases z : b ∈ ts.map Prod.snd
    · exact z
    · rw [out0 b z] at q
      cases q
  cases hk : K.lookup a with
  | some o =>
    have e := inK a o hk
    rw [oa] at e
    have e' := Option.some.inj e
    refine go H0 (fun b => ?_) in0 (.inr ⟨o, vs.toArray, 0, hk, ?_, ?_, ?_, by rw [List.size_toArray, hlen]; exact short, by simpa using rv⟩) (fun b u q => ?_) fun b u q => .inl (dom0 b u q)
    · by_cases z : b ∈ ts.map Prod.snd
      · exact .inr (.inl ⟨z, in0 b z⟩)
      · exact .inl (out0 b z)
    · rw [← e']
    · rw [← e']
    · rw [← e']
    · have z := dom0 b u q
      rw [in0 b z] at q
      cases q
      exact (ta.at_ z).1
  | none =>
    let H1 : Hp := upd H0 a (.frz { cls := .type "list", data := .seq vs.toArray } (.lst (ns.map V.int)))
    have atA : H1 a = some (.frz { cls := .type "list", data := .seq vs.toArray } (.lst (ns.map V.int))) := upd_same
    have offA : ∀ b, b ≠ a → H1 b = H0 b := fun b z => upd_ne z
    have in1 : ∀ b ∈ ts.map Prod.snd, H1 b = some (.tbl #[]) := fun b z => by
      rw [offA b fun q => na (by rw [← q]; exact z)]
      exact in0 b z
    refine go H1 (fun b => ?_) in1 (.inl (.inr ⟨_, atA⟩)) (fun b u q => ?_) fun b u q => ?_
    · by_cases z : b = a
      · rw [z]
        exact .inr (.inr ⟨_, _, atA⟩)
      · rw [offA b z]
        by_cases y : b ∈ ts.map Prod.snd
        · exact .inr (.inl ⟨y, in0 b y⟩)
        · exact .inl (out0 b y)
    · by_cases z : b = a
      · subst z
        rw [atA] at q
        cases q
        exact ⟨oa, by rw [List.length_map]; exact short, vs, 0, rv, oa⟩
      · rw [offA b z] at q
        have y := dom0 b u q
        rw [in0 b y] at q
        cases q
        exact (ta.at_ y).1
    · by_cases z : b = a
      · exact .inr ⟨z, hk⟩
      · rw [offA b z] at q
        exact .inl (dom0 b u q)
theorem walk_ofWT {l : PySem.W.OpenLaw} {n k : Nat} {q : Program} {loose : List Str} {XP : (Str → Option Value) → Heap → Prop} {YP : World → Heap → Prop} {d : DefRec} {x : Str}
    (hn : l.most = some n) (hn2 : n ≤ sizeLine) (hdf : d.params.defaults = []) (hr : Room k callerA)
    (F : ∀ (w : World) (mg : Str → Option Value) (fa : Addr) (h : Heap), YP w h → h.Ns mainGlobals mg → mg d.name = some (.ref fa) →
      ∃ (K : PySem.W.Frag) (ts : List (Addr × Addr)) (fd : FuncData) (sp : Sp), K.In h ∧ TabsAt K h ts ∧ (∀ (s : Shared) (u : Value), BindsTo s fd ⟨[u], []⟩ [(x, u)]) ∧
        (∀ (H : Hp) (a : Addr) (ns : List Int), ns.length ≤ n → OnlyT ts H → (∀ p ∈ ts, H p.2 = some (.tbl #[])) → SqL K H a (ns.map V.int) → sp [.ref a] H (fun v _ => v = .bl true) fun _ _ _ => False) ∧
        ∀ base : Heap, K.In base → base.Ns mainGlobals mg → (∀ p ∈ ts, LamX.TabB base mg p.1 p.2) → FnG l.prog w K mg base (L2.CX l.prog w) k fa fd [x] sp) :
    PySem.W.WalkO q loose XP YP l.row.toRowW d [] (fun f vs => PySem.call f vs) := by
  refine Att.attach_call hn hdf fun w s₀ s₁ mg mb fa o pm cd doc a vs ns G Y ho hd hcd hmg hobj hints hlen hg => ?_
  obtain ⟨K, ts, fd, sp, KX, TX, hb, hsp, hF⟩ := F w mg fa _ Y G.T.g hmg
  refine law_callGT KX G.T.g G.T.b G.T.builtins G.T.nolimit hg TX G.T.bmain hobj hints (Nat.le_trans hlen hn2) hr hF hb (fun H => hsp H a ns hlen) fun H e s' z => ?_
  obtain ⟨_, _, _, _, _, _, _, _, _, _, _, _, h⟩ := z
  exact h
theorem mkTs_mem {K : PySem.W.Frag} {x : Str} {P : Addr} (hx : x ∈ makers) (hP : tabA K x = some P) : ∃ c, codA K x = some c ∧ (x, c, P) ∈ mkTs K := by
  have h2 := hP
  unfold tabA at h2
  obtain ⟨c, hc, _⟩ := Option.bind_eq_some_iff.mp h2
  refine ⟨c, hc, List.mem_filterMap.mpr ⟨x, hx, ?_⟩⟩
  rw [hc, hP]
theorem tabsAt_of {K : PySem.W.Frag} {h : Heap} (hK : K.In h) (ok : mkOk K = true) (em : ((mkTs K).all fun t => emB (h.get? t.2.2)) = true) : TabsAt K h ((mkTs K).map Prod.snd) := by
  obtain ⟨_, ok2⟩ := He.ba ok
  have z := List.all_eq_true.mp ok2
  have y := List.all_eq_true.mp em
  refine ⟨fun p hp => ?_, fun p hp => ?_, fun p hp => ?_⟩ <;> obtain ⟨t, ht, rfl⟩ := List.mem_map.mp hp
  · exact emB_ok (y t ht)
  · exact Option.isNone_iff_eq_none.mp (He.ba (z t ht)).1
  · exact PySem.W.codeHd_of_K hK (He.ba (z t ht)).2
theorem tabsB_of {K : PySem.W.Frag} {mg : Str → Option Value} {base : Heap} (h : ∀ p ∈ (mkTs K).map Prod.snd, LamX.TabB base mg p.1 p.2) : TabsB K mg base := fun _ y hy c P hc hP => by
  obtain ⟨c', hc', hm⟩ := mkTs_mem hy hP
  rw [hc] at hc'
  cases hc'
  exact h (c, P) (List.mem_map.mpr ⟨_, hm, rfl⟩)
/-- the ground names the tables -/
def markF (K : PySem.W.Frag) (H : Hp) : Hp := fun b => match (mkTs K).find? fun t => t.2.2 == b with
  | some t => some (.tbl #[.str (lamQ t.1) 0])
  | none => H b
theorem nodup_inj {α β : Type} {f : α → β} : ∀ {l : List α}, (l.map f).Nodup → ∀ {a b : α}, a ∈ l → b ∈ l → f a = f b → a = b
  | [], _, a, b, ha, _, _ => nomatch ha
  | c :: r, h, a, b, ha, hb, e => by
    rw [List.map_cons, List.nodup_cons] at h
    rcases List.mem_cons.mp ha with z | z <;> rcases List.mem_cons.mp hb with y | y
    · rw [z, y]
    · subst z
      exact absurd (List.mem_map.mpr ⟨b, y, e.symm⟩) h.1
    · subst y
      exact absurd (List.mem_map.mpr ⟨a, z, e⟩) h.1
    · exact nodup_inj h.2 z y e
theorem law_endT {K : PySem.W.Frag} {f : List D → RP} {H : Hp} {a : Addr} {ns : List Int} (ok : mkOk K = true) (o : OnlyT ((mkTs K).map Prod.snd) H) (ht : ∀ p ∈ (mkTs K).map Prod.snd, H p.2 = some (.tbl #[])) (h : SqL K H a (ns.map V.int)) (hm : f [.scr ns] = .ok (.bl true)) :
    spP K 1 f [.ref a] H (fun v _ => v = .bl true) fun _ _ _ => False := by
  obtain ⟨nd, _⟩ := He.ba ok
  have nd' := of_decide_eq_true nd
  have atT : ∀ t ∈ mkTs K, H t.2.2 = some (.tbl #[]) := fun t z => ht t.2 (List.mem_map.mpr ⟨t, z, rfl⟩)
  have mk : ∀ t ∈ mkTs K, markF K H t.2.2 = some (.tbl #[.str (lamQ t.1) 0]) := fun t z => by
    unfold markF
    cases q : (mkTs K).find? fun u => u.2.2 == t.2.2 with
    | none => exact absurd (beq_self_eq_true _) (List.find?_eq_none.mp q t z)
    | some u =>
      rw [nodup_inj nd' (List.mem_of_find?_eq_some q) z (beq_iff_eq.mp (List.find?_some (p := fun u : Str × Addr × Addr => u.2.2 == t.2.2) q))]
  have off : ∀ b, (∀ t ∈ mkTs K, t.2.2 ≠ b) → markF K H b = H b := fun b z => by
    unfold markF
    cases q : (mkTs K).find? fun u => u.2.2 == b with
    | none => rfl
    | some u => exact absurd (beq_iff_eq.mp (List.find?_some (p := fun u : Str × Addr × Addr => u.2.2 == b) q)) (z u (List.mem_of_find?_eq_some q))
  have isT : ∀ b, (∃ t ∈ mkTs K, t.2.2 = b) ∨ ∀ t ∈ mkTs K, t.2.2 ≠ b := fun b => by
    by_cases z : ∃ t ∈ mkTs K, t.2.2 = b
    · exact .inl z
    · exact .inr fun t ht e => z ⟨t, ht, e⟩
  have fh : FH (markF K H) H := ⟨⟨fun b u e n => by
      rcases isT b with ⟨t, z, rfl⟩ | z
      · rw [mk t z] at e
        cases e
        cases n
      · rw [← off b z]
        exact e⟩, fun b ps e => by
      rcases isT b with ⟨t, z, rfl⟩ | z
      · rw [mk t z] at e
        cases e
        exact ⟨_, _, rfl, #[], atT t z, trivial, fun pos cv q => nomatch q⟩
      · rw [off b z] at e
        rcases o b with q | q | ⟨_, _, q⟩
        · rw [q] at e
          cases e
        · obtain ⟨p, hp, e2⟩ := List.mem_map.mp q.1
          obtain ⟨t, ht, e3⟩ := List.mem_map.mp hp
          exact absurd (show t.2.2 = b by rw [e3]; exact e2) (z t ht)
        · rw [q] at e
          cases e⟩
  refine ⟨rfl, markF K H, [.scr ns], ⟨fh, fun _ x hx P hP => ?_⟩, dens_cons ⟨a, rfl, ?_⟩ dens_nil, ?_⟩
  · obtain ⟨c, _, hm⟩ := mkTs_mem hx hP
    exact ⟨0, mk _ hm⟩
  · rcases h with h | h
    · refine .inl ?_
      rcases isT a with ⟨t, z, rfl⟩ | z
      · rcases h with h | ⟨_, h⟩ <;> (rw [atT t z] at h; cases h)
      · rcases h with h | ⟨o, h⟩
        · exact .inl (by rw [off a z]; exact h)
        · exact .inr ⟨o, by rw [off a z]; exact h⟩
    · exact .inr h
  · rw [hm]
    exact fun F' H' v _ d => d
theorem obsXL_eq {fns cls : List Str} {bs : List BoolX} {fn : List DefX} {ts : List (Str × List Str)} {g : Addr → Option Obj} {s : Shared} (h : ∀ a, g a = s.heap.get? a) : obsXL fns cls bs fn ts g = (hookL fns cls bs fn ts).obs s := by
  rw [show g = s.heap.get? from funext h]
  rfl
end DD
set_option maxHeartbeats 0
namespace Law_k05
open PySem PySem.Spec PyProof.Rows L2 DD
theorem ob_eq (s : PySem.W.SharedT) : ob s = hk.obs s.abs := obsXL_eq (HandSHeadRun.getT_eq s)
end Law_k05
set_option maxHeartbeats 200000
namespace Mi
open PySem PySem.Spec PyProof.Rows L2 DD
def Jar (o : O) : Prop := ∃ a b c : Int, o = oL [.int a, .int b, .int c]
theorem dip_t {a b c top : Int} (ha : 0 < a) (ht : 0 < top) (ht2 : top < 1073741824) : m_l_dip (oL [.int a, .int b, .int c]) [.int top] = .ok (.int (a % top)) (oL [.int (a / top), .int b, .int (c + 1)]) := by
  simp [m_l_dip, mFunI, b_l_dip, startE, mOpL, gIx, ixN, finI, ha, ht, ht2]
theorem dip_f {a b c top : Int} (ha : ¬ 0 < a) (ht : 0 < top) : m_l_dip (oL [.int a, .int b, .int c]) [.int top] = .ok (.int ((b * 48271 + 20011 * (c + 1)) % 2147483399 / 512 % top)) (oL [.int a, .int ((b * 48271 + 20011 * (c + 1)) % 2147483399), .int (c + 1)]) := by
  simp [m_l_dip, mFunI, b_l_dip, startE, mOpL, gIx, ixN, finI, ha, ht]
theorem dip_ok {o : O} (h : Jar o) {top : Int} (ht : 0 < top) (ht2 : top < 1073741824) : ∃ (r : Nat) (o' : O), m_l_dip o [.int top] = .ok (.int (r : Nat)) o' ∧ Jar o' ∧ (r : Int) < top := by
  obtain ⟨a, b, c, rfl⟩ := h
  have key : ∀ x : Int, ∃ r : Nat, x % top = (r : Nat) ∧ (r : Int) < top := fun x => by
    have h1 := Int.emod_nonneg x (by omega : top ≠ 0)
    have h2 := Int.emod_lt_of_pos x ht
    exact ⟨(x % top).toNat, by omega, by omega⟩
  by_cases ha : 0 < a
  · obtain ⟨r, h1, h2⟩ := key a
    exact ⟨r, _, by rw [dip_t ha ht ht2, h1], ⟨_, _, _, rfl⟩, h2⟩
  · obtain ⟨r, h1, h2⟩ := key ((b * 48271 + 20011 * (c + 1)) % 2147483399 / 512)
    exact ⟨r, _, by rw [dip_f ha ht, h1], ⟨_, _, _, rfl⟩, h2⟩
theorem one_of_ok {o : O} (h : Jar o) {xs : List D} (h0 : 0 < xs.length) (h1 : xs.length < 1073741824) : ∃ (i : Nat) (hi : i < xs.length) (o' : O), m_l_one_of o [.lst xs] = .ok xs[i] o' ∧ Jar o' := by
  obtain ⟨r, o', e, j, hr⟩ := dip_ok h (top := (xs.length : Int)) (by omega) (by omega)
  have hr' : r < xs.length := by omega
  refine ⟨r, hr', o', ?_, j⟩
  simp [m_l_one_of, mFunI, b_l_one_of, startE, mCallI, finI, e, hr']
theorem jar_ok (ns : List Int) (t : Nat) : ∃ o, m_l_jar [.scr ns, .int t] = .oo o ∧ Jar o := by
  have hc : ∃ c : Int, (if t < ns.length then (ns[t]?).map D.int else some (.int (9 * t + 5))) = some (.int c) := by
    by_cases h : t < ns.length
    · exact ⟨ns[t], by simp [h]⟩
    · exact ⟨_, by simp [h]; rfl⟩
  obtain ⟨c, hc⟩ := hc
  -- the cell
  have h2 : (mIf (mTest (mOp ltD (mVar 1) (mCB lenD (mCons (mVar 0) mNil)))) (mOp getD (mVar 0) (mVar 1)) (mOp addD (mOp mulD (mC (.int 9)) (mVar 1)) (mC (.int 5)))) [some (.d (.scr ns)), some (.d (.int t)), none, none, none] = .ok (.int c) [some (.d (.scr ns)), some (.d (.int t)), none, none, none] := by
    by_cases h : t < ns.length
    · simp only [h, if_true] at hc
      simp [h, hc]
      simpa [h] using hc
    · simp only [h, if_false] at hc
      simp [h]
      simpa using hc
  let E : Int → Option O → DEnv := fun m v => [some (.d (.scr ns)), some (.d (.int t)), some (.d (.int c)), some (.d (.int m)), v]
  obtain ⟨e, h3, -, m, v, rfl⟩ := forM_inv (tg := gV 4) (body := mSet 3 (mOp modD (mCB intD (mCons (mOp addD (mOp mulD (mVar 3) (mC (.int 31337))) (mVar 4)) mNil)) (mC (.int 2147483249))))
    (fun ds env => (∀ d ∈ ds, ∃ i : Int, d = .int i) ∧ ∃ m v, env = E m v) (fun d ds env hI => by
      obtain ⟨h1, m, v, rfl⟩ := hI
      obtain ⟨i, rfl⟩ := h1 d List.mem_cons_self
      exact ⟨_, E ((m * 31337 + i) % 2147483249) (some (.d (.int i))), rfl, .inl (by simp [E]), fun x hx => h1 x (List.mem_cons_of_mem _ hx), _, _, rfl⟩)
    ((ns.map D.int).take 5 ++ [.int c]) (E (50023 + 7013 * t) none) ⟨fun d hd => by
      rcases List.mem_append.mp hd with hd | hd
      · obtain ⟨i, _, rfl⟩ := List.mem_map.mp (List.mem_of_mem_take hd)
        exact ⟨i, rfl⟩
      · exact ⟨c, List.mem_singleton.mp hd⟩, _, _, rfl⟩
  have hl : min 5 ns.length + 1 ≤ 16777216 := by omega
  have s1 : m_l_jar [.scr ns, .int t] = finP (b_l_jar [some (.d (.scr ns)), some (.d (.int t)), none, none, none]) := rfl
  have h5 : cutD ns none (some 5) = ns.take 5 := v_cut0 (b := 5)
  rw [s1]
  unfold b_l_jar
  simp only [e_seq, e_set, h2, Rs.on_ok, andThen_nx, List.set_cons_zero, List.set_cons_succ]
  simp [h5, hl, size_e]
  rw [show ([some (O.d (D.scr ns)), some (O.d (D.int t)), some (O.d (D.int c)), some (O.d (D.int (50023 + 7013 * t))), none] : DEnv) = E (50023 + 7013 * t) none from rfl, h3]
  by_cases hh : c < 0 ∨ 1000000000000000000 ≤ c
  · refine ⟨oL [.int (if c < 0 then -c else c), .int m, .int 0], ?_, _, _, _, rfl⟩
    rcases hh with hh | hh
    · simp [E, hh, finP, size_e]
    · simp [E, hh, finP, size_e, show ¬ c < 0 by omega]
  · refine ⟨oL [.int 0, .int m, .int 0], ?_, _, _, _, rfl⟩
    simp [E, finP, size_e, show ¬ c < 0 by omega, show ¬ 1000000000000000000 ≤ c by omega]
end Mi
namespace Mi
open PySem PySem.Spec PyProof.Rows L2 DD
abbrev okS (x : Str) : Prop := PyData.canLay0 (.str x) = true
def sl (xs : List Str) : List D := xs.map D.str
theorem sl_mem {x : Str} {xs : List Str} : D.str x ∈ sl xs ↔ x ∈ xs := by
  unfold sl
  constructor
  · intro h
    obtain ⟨y, h1, h2⟩ := List.mem_map.mp h
    cases h2
    exact h1
  · exact fun h => List.mem_map.mpr ⟨x, h, rfl⟩
theorem sl_pl {n : Nat} {xs : List Str} (h : ∀ x ∈ xs, okS x) : (sl xs).all (plN n) = true := by
  rw [List.all_eq_true]
  intro d hd
  obtain ⟨x, hx, rfl⟩ := List.mem_map.mp hd
  cases n <;> exact h x hx
theorem sl_tup {n : Nat} {xs : List Str} (h : ∀ x ∈ xs, okS x) : plN (n + 1) (.tup (sl xs)) = true := sl_pl h
theorem sl_inj : ∀ {xs ys : List Str}, sl xs = sl ys ↔ xs = ys
  | [], [] => by simp
  | [], y :: ys => by simp [sl]
  | x :: xs, [] => by simp [sl]
  | x :: xs, y :: ys => by
    have ih := @sl_inj xs ys
    unfold sl at ih ⊢
    simp [ih]
theorem strsD_sl : ∀ xs : List Str, strsD (sl xs) = some xs
  | [] => rfl
  | x :: xs => by
    show (strsD (sl xs)).map (fun ss => x :: ss) = _
    rw [strsD_sl xs]
    rfl
theorem pl_str {n : Nat} {x : Str} (h : okS x) : plN n (.str x) = true := by
  cases n <;> exact h
open Classical in
theorem one_of_eq {x : Str} {xs : List Str} (h : okS x) (hx : ∀ y ∈ xs, okS y) : m_is_one_of [.str x, .tup (sl xs)] = .ok (.bl (decide (x ∈ xs))) := by
  have hb : m_is_one_of [.str x, .tup (sl xs)] = finP (b_is_one_of [some (.d (.str x)), some (.d (.tup (sl xs)))]) := rfl
  rw [hb]
  unfold b_is_one_of
  have h1 : isiD "str" (.str x) = some (.bl true) := rfl
  simp [h1, in_plT (pl_str h) (sl_pl hx), sl_mem, finP]
open Classical in
theorem are_different_eq {xs ys : List Str} (h : ∀ x ∈ xs, okS x) (hy : ∀ y ∈ ys, okS y) (hl : xs.length < 4000) : m_are_different [.tup (sl xs), .tup (sl ys)] = .ok (.bl (decide ((∀ x ∈ xs, x ∈ ys) ∧ xs.Nodup))) := by
  have hb : m_are_different [.tup (sl xs), .tup (sl ys)] = finP (b_are_different [some (.d (.tup (sl xs))), some (.d (.tup (sl ys))), none]) := rfl
  rw [hb]
  unfold b_are_different
  have h1 : isiD "tuple" (.tup (sl xs)) = some (.bl true) := rfl
  have h2 := lcM_pure (i := 2) (tst := mYes) (elt := mCall m_is_one_of (mCons (mVar 2) (mCons (mVar 1) mNil))) (env := [some (.d (.tup (sl xs))), some (.d (.tup (sl ys))), none]) (p := fun _ => true) (g := fun d => .bl (decide (d ∈ sl ys))) rfl (sl xs) fun d hd => by
    obtain ⟨x, hx, rfl⟩ := List.mem_map.mp hd
    refine ⟨rfl, fun _ => ?_⟩
    simp [mCall, one_of_eq (h x hx) hy, sl_mem]
  have hlen : (sl xs).length = xs.length := by simp [sl]
  have h3 : xs.length < 16777216 := by omega
  have h4 : bools ((sl xs).map fun d => D.bl (decide (d ∈ sl ys))) = some (xs.map fun x => decide (x ∈ ys)) := by
    clear h2 h1 hb h hl hlen h3
    induction xs with
    | nil => rfl
    | cons x xs ih =>
      show (bools ((sl xs).map fun d => D.bl (decide (d ∈ sl ys)))).map (fun bs => decide (D.str x ∈ sl ys) :: bs) = _
      rw [ih]
      simp [sl_mem]
  have h5 : allD [.lst ((sl xs).map fun d => D.bl (decide (d ∈ sl ys)))] = some (.bl (decide (∀ x ∈ xs, x ∈ ys))) := by
    show (bools _).map (fun bs => D.bl (bs.all id)) = _
    rw [h4]
    simp [List.all_map]
    rw [Bool.eq_iff_iff]
    simp
  have h6 : lenSetD (.tup (sl xs)) = some (.int (distinct xs : Nat)) := by
    show (strsD (sl xs)).bind (fun xs => if xs.length + 1 < scanBound then some (D.int (distinct xs : Nat)) else none) = _
    rw [strsD_sl]
    have : xs.length + 1 < scanBound := by unfold scanBound; omega
    simp [this]
  have h7 : eqD (.int (distinct xs : Nat)) (.int (xs.length : Nat)) = some (.bl (decide (xs.Nodup))) := by
    rw [eq_pl rfl rfl]
    by_cases q : xs.Nodup
    · have := (distinct_eq_length xs).mpr q
      simp [q, this]
    · have : ¬ distinct xs = xs.length := fun z => q ((distinct_eq_length xs).mp z)
      simp [q]
      omega
  have hf : (sl xs).filter (fun _ => true) = sl xs := List.filter_eq_self.mpr fun _ _ => rfl
  rw [hf] at h2
  by_cases q : ∀ x ∈ xs, x ∈ ys
  · rw [decide_eq_true q] at h5
    simp [h1, h2, h3, h5, h6, size_e, hlen, h7, finP]
    exact fun _ => q
  · rw [decide_eq_false q] at h5
    simp [h1, h2, h3, h5, h6, size_e, hlen, h7, finP]
    exact fun z => absurd z q
end Mi
namespace Mi
open PySem DD
theorem placeS_mem {z : Str} : ∀ {ys : List Str}, z ∈ ys → ∃ j, placeS z ys = some j
  | y :: ys, h => by
    unfold placeS
    by_cases e : y = z
    · exact ⟨0, if_pos e⟩
    · rw [if_neg e]
      rcases List.mem_cons.mp h with h | h
      · exact absurd h.symm e
      · obtain ⟨j, hj⟩ := placeS_mem h
        exact ⟨j + 1, by rw [hj]; rfl⟩
theorem placeS_ne {y z : Str} {ys : List Str} (h : ¬ y = z) : placeS z (y :: ys) = (placeS z ys).map (· + 1) := if_neg h
theorem placeS_eq {z : Str} {ys : List Str} : placeS z (z :: ys) = some 0 := if_pos rfl
/-- the places of a part in order rise -/
theorem places_rise : ∀ {ps xs : List Str}, ps.Sublist xs → xs.Nodup → ∃ js : List Nat, ps.map (fun p => placeS p xs) = js.map some ∧ js.Pairwise (· < ·)
  | _, _, .slnil, _ => ⟨[], rfl, List.Pairwise.nil⟩
  | ps, _, .cons a h, nd => by
    obtain ⟨js, h1, h2⟩ := places_rise h (List.nodup_cons.mp nd).2
    refine ⟨js.map (· + 1), ?_, ?_⟩
    · rw [List.map_map]
      have : (some ∘ fun x => x + 1) = (Option.map (· + 1)) ∘ (some : Nat → Option Nat) := rfl
      rw [this, ← List.map_map, ← h1, List.map_map]
      refine List.map_congr_left fun p hp => ?_
      have hne : ¬ a = p := fun e => (List.nodup_cons.mp nd).1 (e ▸ h.subset hp)
      exact placeS_ne hne
    · exact List.Pairwise.map _ (fun a b (h : a < b) => by show a + 1 < b + 1; omega) h2
  | _, _, .cons₂ a (l₁ := ps) (l₂ := xs) h, nd => by
    obtain ⟨js, h1, h2⟩ := places_rise h (List.nodup_cons.mp nd).2
    refine ⟨0 :: js.map (· + 1), ?_, ?_⟩
    · rw [List.map_cons, List.map_cons, List.map_map]
      have : (some ∘ fun x => x + 1) = (Option.map (· + 1)) ∘ (some : Nat → Option Nat) := rfl
      rw [this, ← List.map_map, ← h1, List.map_map]
      rw [placeS_eq]
      congr 1
      refine List.map_congr_left fun p hp => ?_
      have hne : ¬ a = p := fun e => (List.nodup_cons.mp nd).1 (e ▸ h.subset hp)
      exact placeS_ne hne
    · refine List.pairwise_cons.mpr ⟨fun b hb => ?_, List.Pairwise.map _ (fun a b (h : a < b) => by show a + 1 < b + 1; omega) h2⟩
      obtain ⟨c, _, rfl⟩ := List.mem_map.mp hb
      omega
theorem intsD_nat : ∀ js : List Nat, intsD (js.map fun j => D.int (j : Nat)) = some (js.map fun (j : Nat) => (j : Int))
  | [] => rfl
  | j :: js => by
    show (intsD (js.map fun j => D.int (j : Nat))).map (fun is => ((j : Nat) : Int) :: is) = _
    rw [intsD_nat js]
    rfl
theorem in_order_ok {xs ps : List Str} (h : ps.Sublist xs) (nd : xs.Nodup) (hl : ps.length < 60) : m_in_order [.tup (sl xs), .tup (sl ps)] = .ok (.bl true) := by
  have hb : m_in_order [.tup (sl xs), .tup (sl ps)] = finP (b_in_order [some (.d (.tup (sl xs))), some (.d (.tup (sl ps))), none, none]) := rfl
  rw [hb]
  unfold b_in_order
  obtain ⟨js, h1, h2⟩ := places_rise h nd
  have hjl : js.length = ps.length := by
    have := congrArg List.length h1
    simpa using this.symm
  have hat : ∀ p ∈ ps, ∃ j, placeS p xs = some j := fun p hp => placeS_mem (h.subset hp)
  have h3 := lcM_pure (i := 3) (tst := mYes) (elt := mIndex (mVar 0) (mVar 3)) (env := [some (.d (.tup (sl xs))), some (.d (.tup (sl ps))), none, none]) (p := fun _ => true)
    (g := fun d => match d with
      | .str p => .int (((placeS p xs).getD 0 : Nat) : Int)
      | _ => .non) rfl (sl ps) fun d hd => by
    obtain ⟨p, hp, rfl⟩ := List.mem_map.mp hd
    obtain ⟨j, hj⟩ := hat p hp
    refine ⟨rfl, fun _ => ?_⟩
    simp [mIndex, indexD, strsD_sl, hj]
  have hf : (sl ps).filter (fun _ => true) = sl ps := List.filter_eq_self.mpr fun _ _ => rfl
  have hg : (sl ps).map (fun d => match d with
      | .str p => D.int (((placeS p xs).getD 0 : Nat) : Int)
      | _ => .non) = js.map fun j => D.int (j : Nat) := by
    unfold sl
    rw [List.map_map]
    have : js.map (fun j => D.int (j : Nat)) = (js.map some).map fun o => D.int ((o.getD 0 : Nat) : Int) := by
      rw [List.map_map]
      rfl
    rw [this, ← h1, List.map_map]
    rfl
  rw [hf, hg] at h3
  have hsort : sortI (js.map fun (j : Nat) => (j : Int)) = js.map fun (j : Nat) => (j : Int) := by
    refine sorted_one (sortI_perm _) (sortI_sorted _) ?_
    exact List.Pairwise.map _ (fun a b (h : a < b) => by omega) h2
  have h4 : sortedD [.lst (js.map fun j => D.int (j : Nat))] = some (.lst (js.map fun j => D.int (j : Nat))) := by
    show (intsD _).bind (fun is => if is.length < 64 then some (D.lst ((sortI is).map .int)) else none) = _
    rw [intsD_nat]
    have : (js.map fun (j : Nat) => (j : Int)).length < 64 := by
      rw [List.length_map]
      omega
    simp only [Option.bind_some, this, if_true, hsort, List.map_map]
    rfl
  have hpl : plN 60 (.lst (js.map fun j => D.int (j : Nat))) = true := by
    show (js.map fun j => D.int (j : Nat)).all (plN 59) = true
    rw [List.all_eq_true]
    intro d hd
    obtain ⟨j, _, rfl⟩ := List.mem_map.mp hd
    rfl
  have h5 := eq_pl hpl hpl
  have hlen : (sl ps).length < 16777216 := by
    unfold sl
    rw [List.length_map]
    omega
  have hlen' : ps.length < 16777216 := by omega
  have hlen2 : (sl ps).length = ps.length := by simp [sl]
  simp [h3, h4, h5, hlen2, hlen', size_e, finP]
theorem enum_all {body : MS} {a b : Nat} (E : Option O → Option O → DEnv) (hE : ∀ u v d (k : Nat), gT 2 (gVcons (gV a) (gVcons (gV b) gVnil)) (.tup [.int (k : Nat), d]) (E u v) = some (E (some (.d (.int (k : Nat)))) (some (.d d))))
    (xs : List D) (hb : ∀ (k : Nat) (d : D), xs[k]? = some d → body (E (some (.d (.int (k : Nat)))) (some (.d d))) = .nx (E (some (.d (.int (k : Nat)))) (some (.d d)))) (u v : Option O) :
    ∃ u' v', DD.forM (gT 2 (gVcons (gV a) (gVcons (gV b) gVnil))) body (enumL 0 xs) (E u v) = .nx (E u' v') := by
  obtain ⟨e, h1, k, u', v', h2, rfl⟩ := forM_inv (tg := gT 2 (gVcons (gV a) (gVcons (gV b) gVnil))) (body := body) (fun ds env => ∃ (k : Nat) (u v : Option O), ds = enumL k (xs.drop k) ∧ env = E u v) (fun d ds env hI => by
    obtain ⟨k, u, v, h, rfl⟩ := hI
    have hk : k < xs.length := by
      by_cases q : k < xs.length
      · exact q
      · rw [List.drop_of_length_le (by omega)] at h
        cases h
    rw [List.drop_eq_getElem_cons hk] at h
    have h' : d :: ds = .tup [.int (k : Nat), xs[k]] :: enumL (k + 1) (xs.drop (k + 1)) := h
    obtain ⟨rfl, rfl⟩ := List.cons.inj h'
    exact ⟨_, _, hE u v _ k, .inl (hb k xs[k] (List.getElem?_eq_getElem hk)), k + 1, _, _, rfl, rfl⟩) (enumL 0 xs) (E u v) ⟨0, u, v, rfl, rfl⟩
  exact ⟨u', v', h1⟩
theorem sl_take {xs : List Str} {k : Nat} : (sl xs).take k = sl (xs.take k) := List.map_take.symm
theorem sl_get {xs : List Str} {k : Nat} {d : D} (h : (sl xs)[k]? = some d) : ∃ hk : k < xs.length, d = .str xs[k] := by
  unfold sl at h
  rw [List.getElem?_map] at h
  obtain ⟨x, h1, rfl⟩ := Option.map_eq_some_iff.mp h
  obtain ⟨h2, rfl⟩ := List.getElem?_eq_some_iff.mp h1
  exact ⟨h2, rfl⟩
theorem not_before {α : Type} {xs : List α} (nd : xs.Nodup) {k : Nat} (hk : k < xs.length) : xs[k] ∉ xs.take k := fun h => by
  obtain ⟨j, hj, e⟩ := List.mem_iff_getElem.mp h
  rw [List.length_take] at hj
  rw [List.getElem_take] at e
  exact List.pairwise_iff_getElem.mp nd j k (by omega) hk (by omega) e
def Nm (x : Str) : Prop := m_is_client_name [.str x] = .ok (.bl true) ∧ okS x
open Classical in
theorem names_until_ok {xs ts : List Str} {most : Nat} (hn : ∀ x ∈ xs, Nm x) (hot : ∀ t ∈ ts, okS t) (nd : xs.Nodup) (hd : ∀ x ∈ xs, x ∉ ts) (hl : xs.length ≤ most) :
    m_names_until [.tup (sl xs), .int (most : Nat), .tup (sl ts)] = .ok .non := by
  have hb : m_names_until [.tup (sl xs), .int (most : Nat), .tup (sl ts)] = finP (b_names_until [some (.d (.tup (sl xs))), some (.d (.int (most : Nat))), some (.d (.tup (sl ts))), none, none]) := rfl
  rw [hb]
  unfold b_names_until
  let E : Option O → Option O → DEnv := fun u v => [some (.d (.tup (sl xs))), some (.d (.int (most : Nat))), some (.d (.tup (sl ts))), u, v]
  obtain ⟨u, v, h⟩ := enum_all (a := 3) (b := 4) (body := mIfS (mOr (mTest (mOp geD (mVar 3) (mVar 1))) (mOr (mNot (mTest (mCall m_is_client_name (mCons (mVar 4) mNil)))) (mOr (mTest (mOp inD (mVar 4) (mSlice (mVar 0) mNoPart (mPart (mVar 3))))) (mTest (mOp inD (mVar 4) (mVar 2)))))) (mRet (mVar 3)) mSkip)
    E (fun _ _ _ _ => rfl) (sl xs) (fun k d hd' => by
      obtain ⟨hk, rfl⟩ := sl_get hd'
      have hx : xs[k] ∈ xs := List.getElem_mem hk
      have h1 : ¬ most ≤ k := by omega
      have h2 : cutD (sl xs) none (some (k : Int)) = sl (xs.take k) := by rw [v_cut0, sl_take]
      have h3 : inD (.str xs[k]) (.tup (sl (xs.take k))) = some (.bl false) := by
        rw [in_plT (pl_str (hn _ hx).2) (sl_pl fun y hy => (hn y (List.mem_of_mem_take hy)).2), decide_eq_false]
        rw [sl_mem]
        exact not_before nd hk
      have h4 : inD (.str xs[k]) (.tup (sl ts)) = some (.bl false) := by
        rw [in_plT (pl_str (hn _ hx).2) (sl_pl hot), decide_eq_false]
        rw [sl_mem]
        exact hd _ hx
      simp [E, mCall, h1, h2, h3, h4, (hn _ hx).1]) none none
  simp only [e_seq, e_for, e_enum, e_var, List.getElem?_cons_zero, Rs.bind_ok, v_enumT, e_ofO_some, Rs.on_ok]
  rw [h]
  rfl
end Mi
namespace Mi
open PySem DD
def tl (fs : List (List Str)) : List D := fs.map fun l => .tup (sl l)
def pl (ps : List (Str × Str)) : List D := ps.map fun p => .tup [.str p.1, .str p.2]
theorem pl_sl {p : Str × Str} : D.tup [.str p.1, .str p.2] = .tup (sl [p.1, p.2]) := rfl
theorem tl_mem {l : List Str} {fs : List (List Str)} : D.tup (sl l) ∈ tl fs ↔ l ∈ fs := by
  unfold tl
  constructor
  · intro h
    obtain ⟨y, h1, h2⟩ := List.mem_map.mp h
    have h3 : sl y = sl l := by
      injection h2
    rw [← sl_inj.mp h3]
    exact h1
  · exact fun h => List.mem_map.mpr ⟨l, h, rfl⟩
theorem pl_mem {a b : Str} {ps : List (Str × Str)} : D.tup [.str a, .str b] ∈ pl ps ↔ (a, b) ∈ ps := by
  unfold pl
  constructor
  · intro h
    obtain ⟨⟨x, y⟩, h1, h2⟩ := List.mem_map.mp h
    injection h2 with h3
    injection h3 with h4 h5
    injection h4 with h6
    injection h5 with h7
    injection h7 with h8
    rw [← h6, ← h8]
    exact h1
  · exact fun h => List.mem_map.mpr ⟨(a, b), h, rfl⟩
theorem tl_pl {n : Nat} {fs : List (List Str)} (h : ∀ l ∈ fs, ∀ x ∈ l, okS x) : (tl fs).all (plN (n + 1)) = true := by
  rw [List.all_eq_true]
  intro d hd
  obtain ⟨l, hl, rfl⟩ := List.mem_map.mp hd
  exact sl_tup (h l hl)
theorem pl_pl {n : Nat} {ps : List (Str × Str)} (h : ∀ p ∈ ps, okS p.1 ∧ okS p.2) : (pl ps).all (plN (n + 1)) = true := by
  rw [List.all_eq_true]
  intro d hd
  obtain ⟨p, hp, rfl⟩ := List.mem_map.mp hd
  rw [pl_sl]
  refine sl_tup fun x hx => ?_
  rcases List.mem_cons.mp hx with rfl | hx
  · exact (h p hp).1
  · rw [List.mem_singleton.mp hx]
    exact (h p hp).2
open Classical in
theorem fails_until_ok {hs : List Str} {fs : List (List Str)} (oh : ∀ x ∈ hs, okS x) (ndh : hs.Nodup) (hsub : ∀ l ∈ fs, l.Sublist hs) (nd : fs.Nodup) (hl : fs.length ≤ 8) (hhl : hs.length ≤ 8) : m_fails_until [.tup (sl hs), .tup (tl fs)] = .ok .non := by
  have hb : m_fails_until [.tup (sl hs), .tup (tl fs)] = finP (b_fails_until [some (.d (.tup (sl hs))), some (.d (.tup (tl fs))), none, none]) := rfl
  rw [hb]
  unfold b_fails_until
  let E : Option O → Option O → DEnv := fun u v => [some (.d (.tup (sl hs))), some (.d (.tup (tl fs))), u, v]
  have ol : ∀ l ∈ fs, ∀ x ∈ l, okS x := fun l h x hx => oh x ((hsub l h).subset hx)
  obtain ⟨u, v, h⟩ := enum_all (a := 2) (b := 3) (body := mSeq (mIfS (mOr (mTest (mOp geD (mVar 2) (mC (.int 8)))) (mNot (mTest (mCall m_are_different (mCons (mVar 3) (mCons (mVar 0) mNil)))))) (mRet (mVar 2)) mSkip)
      (mIfS (mOr (mNot (mTest (mCall m_in_order (mCons (mVar 0) (mCons (mVar 3) mNil))))) (mTest (mOp inD (mVar 3) (mSlice (mVar 1) mNoPart (mPart (mVar 2)))))) (mRet (mVar 2)) mSkip))
    E (fun _ _ _ _ => rfl) (tl fs) (fun k d hd' => by
      unfold tl at hd'
      rw [List.getElem?_map] at hd'
      obtain ⟨l, e1, rfl⟩ := Option.map_eq_some_iff.mp hd'
      obtain ⟨hk, rfl⟩ := List.getElem?_eq_some_iff.mp e1
      have hx : fs[k] ∈ fs := List.getElem_mem hk
      have hle := (hsub _ hx).length_le
      have h1 : ¬ (8 : Int) ≤ (k : Int) := by omega
      have h1' : ¬ 8 ≤ k := by omega
      have h2 : cutD (tl fs) none (some (k : Int)) = tl (fs.take k) := by rw [v_cut0]; exact List.map_take.symm
      have h3 : inD (.tup (sl fs[k])) (.tup (tl (fs.take k))) = some (.bl false) := by
        rw [in_plT (sl_tup (ol _ hx)) (tl_pl fun y hy => ol y (List.mem_of_mem_take hy)), decide_eq_false]
        rw [tl_mem]
        exact not_before nd hk
      have h4 : m_are_different [.tup (sl fs[k]), .tup (sl hs)] = .ok (.bl true) := by
        rw [are_different_eq (ol _ hx) oh (by omega), decide_eq_true]
        exact ⟨fun x h => (hsub _ hx).subset h, (hsub _ hx).nodup ndh⟩
      have h5 : m_in_order [.tup (sl hs), .tup (sl fs[k])] = .ok (.bl true) := in_order_ok (hsub _ hx) ndh (by omega)
      simp [E, mCall, h1, h1', h2, h3, h4, h5]) none none
  simp only [e_seq, e_for, e_enum, e_var, List.getElem?_cons_zero, List.getElem?_cons_succ, Rs.bind_ok, v_enumT, e_ofO_some, Rs.on_ok]
  rw [h]
  rfl
open Classical in
theorem is_pair_ok {rs : List Str} {a b : Str} (or : ∀ x ∈ rs, okS x) (ha : a ∈ rs) (hb : b ∈ rs) (hne : a ≠ b) : m_is_pair [.tup (sl rs), .tup [.str a, .str b]] = .ok (.bl true) := by
  have hb' : m_is_pair [.tup (sl rs), .tup [.str a, .str b]] = finP (b_is_pair [some (.d (.tup (sl rs))), some (.d (.tup [.str a, .str b]))]) := rfl
  rw [hb']
  unfold b_is_pair
  have h4 : m_are_different [.tup [.str a, .str b], .tup (sl rs)] = .ok (.bl true) := by
    have := are_different_eq (xs := [a, b]) (ys := rs) (fun x hx => by
      rcases List.mem_cons.mp hx with rfl | hx
      · exact or _ ha
      · rw [List.mem_singleton.mp hx]
        exact or _ hb) or (by simp)
    rw [decide_eq_true (by simp [ha, hb, hne])] at this
    exact this
  have h5 : eqD (.int 2) (.int 2) = some (.bl true) := by
    rw [eq_pl rfl rfl]
    simp
  simp [mCall, h4, h5, finP]
open Classical in
theorem promises_until_ok {rs : List Str} {ps : List (Str × Str)} (or : ∀ x ∈ rs, okS x) (hm : ∀ p ∈ ps, p.1 ∈ rs ∧ p.2 ∈ rs ∧ p.1 ≠ p.2) (nd : ps.Nodup) : m_promises_until [.tup (sl rs), .tup (pl ps)] = .ok .non := by
  have hb : m_promises_until [.tup (sl rs), .tup (pl ps)] = finP (b_promises_until [some (.d (.tup (sl rs))), some (.d (.tup (pl ps))), none, none]) := rfl
  rw [hb]
  unfold b_promises_until
  let E : Option O → Option O → DEnv := fun u v => [some (.d (.tup (sl rs))), some (.d (.tup (pl ps))), u, v]
  have op : ∀ p ∈ ps, okS p.1 ∧ okS p.2 := fun p h => ⟨or _ (hm p h).1, or _ (hm p h).2.1⟩
  obtain ⟨u, v, h⟩ := enum_all (a := 2) (b := 3) (body := mIfS (mOr (mNot (mTest (mCall m_is_pair (mCons (mVar 0) (mCons (mVar 3) mNil))))) (mTest (mOp inD (mVar 3) (mSlice (mVar 1) mNoPart (mPart (mVar 2)))))) (mRet (mVar 2)) mSkip)
    E (fun _ _ _ _ => rfl) (pl ps) (fun k d hd' => by
      unfold pl at hd'
      rw [List.getElem?_map] at hd'
      obtain ⟨l, e1, rfl⟩ := Option.map_eq_some_iff.mp hd'
      obtain ⟨hk, rfl⟩ := List.getElem?_eq_some_iff.mp e1
      have hx : ps[k] ∈ ps := List.getElem_mem hk
      have h2 : cutD (pl ps) none (some (k : Int)) = pl (ps.take k) := by rw [v_cut0]; exact List.map_take.symm
      have h3 : inD (.tup [.str ps[k].1, .str ps[k].2]) (.tup (pl (ps.take k))) = some (.bl false) := by
        rw [in_plT _ (pl_pl fun y hy => op y (List.mem_of_mem_take hy)), decide_eq_false]
        · rw [pl_mem]
          exact not_before nd hk
        · rw [pl_sl]
          refine sl_tup fun x hx' => ?_
          rcases List.mem_cons.mp hx' with rfl | hx'
          · exact (op _ hx).1
          · rw [List.mem_singleton.mp hx']
            exact (op _ hx).2
      have h4 := is_pair_ok or (hm _ hx).1 (hm _ hx).2.1 (hm _ hx).2.2
      simp [E, mCall, h2, h3, h4]) none none
  simp only [e_seq, e_for, e_enum, e_var, List.getElem?_cons_zero, List.getElem?_cons_succ, Rs.bind_ok, v_enumT, e_ofO_some, Rs.on_ok]
  rw [h]
  rfl
structure Fr (hs : List Str) (fs : List (List Str)) (rs : List Str) (ps : List (Str × Str)) : Prop where
  nh : ∀ x ∈ hs, Nm x
  nr : ∀ x ∈ rs, Nm x
  ndh : hs.Nodup
  ndr : rs.Nodup
  dis : ∀ x ∈ rs, x ∉ hs
  h0 : hs ≠ []
  f0 : fs ≠ []
  r0 : rs ≠ []
  hl : hs.length ≤ 8
  rl : rs.length ≤ 5
  fl : fs.length ≤ 8
  sub : ∀ l ∈ fs, l.Sublist hs
  ndf : fs.Nodup
  pm : ∀ p ∈ ps, p.1 ∈ rs ∧ p.2 ∈ rs ∧ p.1 ≠ p.2
  ndp : ps.Nodup
def settingO (hs : List Str) (fs : List (List Str)) (rs : List Str) (ps : List (Str × Str)) : O := .ins "Setting" ["houses", "fails", "readers", "promises"] [.d (.tup (sl hs)), .d (.tup (tl fs)), .d (.tup (sl rs)), .d (.tup (pl ps))]
open Classical in
theorem init_ok {hs : List Str} {fs : List (List Str)} {rs : List Str} {ps : List (Str × Str)} (h : Fr hs fs rs ps) : m_Setting_init (.ins "Setting" [] []) [.tup (sl hs), .tup (tl fs), .tup (sl rs), .tup (pl ps)] = .ok .non (settingO hs fs rs ps) := by
  have hb : m_Setting_init (.ins "Setting" [] []) [.tup (sl hs), .tup (tl fs), .tup (sl rs), .tup (pl ps)] = finI (b_Setting_init [some (.ins "Setting" [] []), some (.d (.tup (sl hs))), some (.d (.tup (tl fs))), some (.d (.tup (sl rs))), some (.d (.tup (pl ps))), none]) := rfl
  rw [hb]
  unfold b_Setting_init
  have oh : ∀ x ∈ hs, okS x := fun x hx => (h.nh x hx).2
  have or : ∀ x ∈ rs, okS x := fun x hx => (h.nr x hx).2
  have t1 : ∀ ds : List D, isiD "tuple" (.tup ds) = some (.bl true) := fun _ => rfl
  have z : ∀ ds : List D, plN 60 (.tup ds) = true → ds ≠ [] → eqD (.tup ds) (.tup []) = some (.bl false) := fun ds h1 h2 => by
    rw [eq_pl h1 rfl, decide_eq_false]
    intro e
    injection e with e
    exact h2 e
  have z1 := z (sl hs) (sl_tup oh) (fun e => h.h0 (List.map_eq_nil_iff.mp e))
  have z2 := z (tl fs) (tl_pl fun l hl x hx => oh x ((h.sub l hl).subset hx)) (fun e => h.f0 (List.map_eq_nil_iff.mp e))
  have z3 := z (sl rs) (sl_tup or) (fun e => h.r0 (List.map_eq_nil_iff.mp e))
  have n1 : m_names_until [.tup (sl hs), .int 8, .tup []] = .ok .non := names_until_ok (ts := []) (most := 8) h.nh (by simp) h.ndh (by simp) h.hl
  have n2 : m_names_until [.tup (sl rs), .int 5, .tup (sl hs)] = .ok .non := names_until_ok (most := 5) h.nr oh h.ndr h.dis h.rl
  have n3 := fails_until_ok oh h.ndh h.sub h.ndf h.fl h.hl
  have n4 := promises_until_ok or h.pm h.ndp
  have q01 : ¬ ((("houses" : Str)) = "fails") := by decide +kernel
  have q02 : ¬ ((("houses" : Str)) = "readers") := by decide +kernel
  have q03 : ¬ ((("houses" : Str)) = "promises") := by decide +kernel
  have q12 : ¬ ((("fails" : Str)) = "readers") := by decide +kernel
  have q13 : ¬ ((("fails" : Str)) = "promises") := by decide +kernel
  have q23 : ¬ ((("readers" : Str)) = "promises") := by decide +kernel
  simp [mCall, t1, z1, z2, z3, n1, n2, n3, n4, size_e, mSetA, putO, finI, settingO, q01, q02, q03, q12, q13, q23]
end Mi
namespace Mi
open PySem DD
def ext (rs : List Str) (rows : List (List Str)) : List (List Str) := rows.flatMap fun row => (rs.filter fun t => decide (t ∉ row)).map fun t => row ++ [t]
def rowsN (rs : List Str) : Nat → List (List Str)
  | 0 => [[]]
  | k + 1 => ext rs (rowsN rs k)
def upTo (f : Nat → List (List Str)) : Nat → List (List Str)
  | 0 => []
  | k + 1 => upTo f k ++ f (k + 1)
def good (ps : List (Str × Str)) : List Str → Bool
  | a :: b :: r => decide ((a, b) ∈ ps) && good ps (b :: r)
  | _ => true
theorem pigeon : ∀ {xs ys : List Str}, xs.Nodup → (∀ x ∈ xs, x ∈ ys) → xs.length ≤ ys.length
  | [], ys, _, _ => Nat.zero_le _
  | x :: xs, ys, nd, h => by
    obtain ⟨h1, h2⟩ := List.nodup_cons.mp nd
    have hx : x ∈ ys := h x List.mem_cons_self
    have := pigeon (xs := xs) (ys := ys.erase x) h2 fun y hy => (List.mem_erase_of_ne fun e => h1 (by rw [← e]; exact hy)).mpr (h y (List.mem_cons_of_mem _ hy))
    rw [List.length_erase_of_mem hx] at this
    have hp : 0 < ys.length := List.length_pos_of_mem hx
    rw [List.length_cons]
    omega
/-- the chains of one length: the good rows -/
def chN (rs : List Str) (ps : List (Str × Str)) (k : Nat) : List (List Str) := (rowsN rs k).filter (good ps)
end Mi
namespace Mi
open PySem DD
end Mi
namespace Mi
open PySem DD
end Mi
namespace Mi
open PySem DD
def menu : List Str := ["p", "q", "r", "s", "house", "houses", "fail", "reader", "promise", "a", "b", "begin", "zzzzzzzz"]
def labelsS (s g : Nat) : List Str := (List.range 13).map fun k => menu.getD ((s + g * k) % 13) ""
theorem labels_ok {o : O} (h : Jar o) : ∃ (s g : Nat) (o' : O), s < 13 ∧ g ∈ [1, 2, 5, 7, 11] ∧ m_l_labels o [] = .ok (.lst ((labelsS s g).map D.str)) o' ∧ Jar o' := by
  obtain ⟨s, o1, h1, j1, hs⟩ := dip_ok h (top := 13) (by omega) (by omega)
  obtain ⟨gi, hgi, o2, h2, j2⟩ := one_of_ok j1 (xs := [D.int 1, .int 2, .int 5, .int 7, .int 11]) (by simp) (by simp)
  have hg : ∃ g : Nat, g ∈ [1, 2, 5, 7, 11] ∧ [D.int 1, .int 2, .int 5, .int 7, .int 11][gi] = .int (g : Nat) := by
    have : gi < 5 := hgi
    match gi, this with
    | 0, _ => exact ⟨1, by simp, rfl⟩
    | 1, _ => exact ⟨2, by simp, rfl⟩
    | 2, _ => exact ⟨5, by simp, rfl⟩
    | 3, _ => exact ⟨7, by simp, rfl⟩
    | 4, _ => exact ⟨11, by simp, rfl⟩
  obtain ⟨g, hg1, hg2⟩ := hg
  rw [hg2] at h2
  let E : List O → Option O → DEnv := fun os v => [some o2, some (.d (.lst (menu.map D.str))), some (.lst os), some (.d (.int (s : Nat))), some (.d (.int (g : Nat))), v]
  have hml : menu.length = 13 := rfl
  have hlen : (labelsS s g).length = 13 := by simp [labelsS]
  obtain ⟨e, h3, k, v, hk, hd, rfl⟩ := forM_inv (tg := gV 5) (body := mApp 2 (mOp getD (mVar 1) (mOp modD (mCB intD (mCons (mOp addD (mVar 3) (mOp mulD (mVar 4) (mVar 5))) mNil)) (mC (.int 13)))))
    (fun ds env => ∃ (k : Nat) (v : Option O), k ≤ 13 ∧ ds = ((List.range 13).drop k).map (fun k => D.int (k : Nat)) ∧ env = E (((labelsS s g).take k).map fun x => .d (.str x)) v) (fun d ds env hI => by
      obtain ⟨k, v, hk, hd, rfl⟩ := hI
      have hk' : k < 13 := by
        by_cases q : k < 13
        · exact q
        · rw [List.drop_of_length_le (by simp; omega)] at hd
          cases hd
      rw [List.drop_eq_getElem_cons (by simpa using hk'), List.map_cons] at hd
      obtain ⟨rfl, rfl⟩ := List.cons.inj hd
      have hgk : (List.range 13)[k]'(by simpa using hk') = k := by simp
      rw [hgk]
      have hn : (s + g * k) % 13 < menu.length := by rw [hml]; omega
      have e1 : ((s : Int) + (g : Int) * (k : Int)) % 13 = (((s + g * k) % 13 : Nat) : Int) := by norm_cast
      have e2 : (labelsS s g)[k]? = some (menu[(s + g * k) % 13]) := by
        unfold labelsS
        simp [hk', List.getD_eq_getElem?_getD]
        rw [List.getElem?_eq_getElem hn]
        rfl
      refine ⟨E (((labelsS s g).take k).map fun x => .d (.str x)) (some (.d (.int (k : Nat)))), E (((labelsS s g).take (k + 1)).map fun x => .d (.str x)) (some (.d (.int (k : Nat)))), rfl, .inl ?_, k + 1, _, hk', rfl, rfl⟩
      have e3 : (menu.map D.str)[(s + g * k) % 13]? = some (.str (menu[(s + g * k) % 13])) := by
        rw [List.getElem?_map, List.getElem?_eq_getElem hn]
        rfl
      have hk2 : mulD (.int (g : Nat)) (.int (k : Nat)) = some (.int ((g : Int) * (k : Int))) := mul_small (by omega)
      have hk3 : (((labelsS s g).take k).map fun x => O.d (.str x)).length < 16777216 := by
        rw [List.length_map, List.length_take]
        omega
      have hel : (mOp getD (mVar 1) (mOp modD (mCB intD (mCons (mOp addD (mVar 3) (mOp mulD (mVar 4) (mVar 5))) mNil)) (mC (.int 13)))) (E (((labelsS s g).take k).map fun x => .d (.str x)) (some (.d (.int (k : Nat))))) = .ok (.str (menu[(s + g * k) % 13])) (E (((labelsS s g).take k).map fun x => .d (.str x)) (some (.d (.int (k : Nat))))) := by
        simp only [E, e_op, e_var, List.getElem?_cons_succ, List.getElem?_cons_zero, Rs.bind_ok, e_cb, e_cons, e_nil, hk2, decide_true, if_true, e_ofO_some, v_add, v_int, e_c, v_mod, v_getL, e1, atI_cast, e3, show (0 : Int) < 13 from by omega]
      refine (e_app ⟨_, rfl⟩ hel rfl (by rw [size_e]; exact hk3)).trans ?_
      rw [List.take_add_one, e2, List.map_append]
      rfl)
    ((List.range 13).map fun k => .int (k : Nat)) (E [] none) ⟨0, _, by omega, rfl, rfl⟩
  have hk13 : k = 13 := by
    have := congrArg List.length hd
    simp at this
    omega
  subst hk13
  have hbod : m_l_labels o [] = finI (b_l_labels [some o, none, none, none, none, none]) := rfl
  refine ⟨s, g, o2, by omega, hg1, ?_, j2⟩
  rw [hbod]
  have hz : ∀ xs : List Str, fzs (xs.map fun x => O.d (.str x)) = xs.map D.str := fun xs => by
    have := fzs_map (xs.map D.str)
    rwa [List.map_map] at this
  have hr : rngD [D.int 13] = some ((List.range 13).map fun k => .int (k : Nat)) := v_range1 (n := 13) (by omega)
  have h4 : DD.forM (gV 5) (mApp 2 (mOp getD (mVar 1) (mOp modD (mCB intD (mCons (mOp addD (mVar 3) (mOp mulD (mVar 4) (mVar 5))) mNil)) (mC (.int 13))))) ((List.range 13).map fun k => D.int (k : Nat)) [some o2, some (.d (.lst (menu.map D.str))), some (oL []), some (.d (.int (s : Nat))), some (.d (.int (g : Nat))), none] = .nx (E (((labelsS s g).take 13).map fun x => .d (.str x)) v) := h3
  rw [List.take_of_length_le (by rw [hlen]; exact Nat.le_refl _)] at h4
  have st1 : b_l_labels [some o, none, none, none, none, none] = (mSeq (mPar2 3 4 (mD (mCallI 0 m_l_dip (mCons (mC (.int 13)) mNil))) (mD (mCallI 0 m_l_one_of (mCons (mLst (mCons (mC (.int 1)) (mCons (mC (.int 2)) (mCons (mC (.int 5)) (mCons (mC (.int 7)) (mCons (mC (.int 11)) mNil)))))) mNil))))
      (mSeq (mFor (mRng (mCons (mC (.int 13)) mNil)) (gV 5) (mApp 2 (mOp getD (mVar 1) (mOp modD (mCB intD (mCons (mOp addD (mVar 3) (mOp mulD (mVar 4) (mVar 5))) mNil)) (mC (.int 13))))))
      (mFrz 2 (mRet (mVar 2))))) [some o, some (.d (.lst (menu.map D.str))), some (oL []), none, none, none] := rfl
  have st2 : (mPar2 3 4 (mD (mCallI 0 m_l_dip (mCons (mC (.int 13)) mNil))) (mD (mCallI 0 m_l_one_of (mCons (mLst (mCons (mC (.int 1)) (mCons (mC (.int 2)) (mCons (mC (.int 5)) (mCons (mC (.int 7)) (mCons (mC (.int 11)) mNil)))))) mNil)))) [some o, some (.d (.lst (menu.map D.str))), some (oL []), none, none, none] = .nx [some o2, some (.d (.lst (menu.map D.str))), some (oL []), some (.d (.int (s : Nat))), some (.d (.int (g : Nat))), none] := by
    simp [size_e, mCallI, h1, h2]
  rw [st1, e_seq, st2, andThen_nx, e_seq, e_for, e_rng, e_cons, e_c, Rs.bind_ok, e_nil, Rs.bind_ok, Rs.bind_ok, hr, e_ofO_some, Rs.on_ok, h4, andThen_nx]
  simp [E, mFrz, finI, hz]
end Mi
namespace Mi
open PySem PySem.Spec PyProof.Rows L2 DD
theorem some_of_ok {o : O} (h : Jar o) {xs : List D} (hx : xs.length < 1000) : ∃ (ys : List D) (o' : O), m_l_some_of o [.lst xs] = .ok (.lst ys) o' ∧ Jar o' ∧ ys.Sublist xs := by
  have hb : m_l_some_of o [.lst xs] = finI (b_l_some_of [some o, some (.d (.lst xs)), none]) := rfl
  obtain ⟨ys, e, h1, zs, o', h2, h3, rfl, j⟩ := lcM_inv (tg := gV 2) (tst := mTest (mOp eqD (mCallI 0 m_l_dip (mCons (mC (.int 2)) mNil)) (mC (.int 0)))) (elt := mVar 2) (vs := [2])
    (fun ds acc env => ∃ (zs : List D) (o' : O), xs = zs ++ ds ∧ acc.Sublist zs ∧ env = [some o', some (.d (.lst xs)), none] ∧ Jar o')
    (fun d ds acc env hI => by
      obtain ⟨zs, o', h1, h2, rfl, j⟩ := hI
      obtain ⟨r, o2, e, j2, hr⟩ := dip_ok j (top := 2) (by omega) (by omega)
      refine ⟨_, rfl, ?_⟩
      have he : eqD (.int (r : Nat)) (.int 0) = some (.bl (decide (r = 0))) := by
        rw [eq_pl rfl rfl]
        by_cases q : r = 0
        · simp [q]
        · have : ¬ ((r : Int) = 0) := by omega
          simp [q]
      have ht : (mTest (mOp eqD (mCallI 0 m_l_dip (mCons (mC (.int 2)) mNil)) (mC (.int 0)))) ([some o', some (.d (.lst xs)), none].set 2 (some (.d d))) = .ok (decide (r = 0)) [some o2, some (.d (.lst xs)), some (.d d)] := by
        simp [mCallI, e, he]
      by_cases q : r = 0
      · refine .inl ⟨[some o2, some (.d (.lst xs)), some (.d d)], d, [some o2, some (.d (.lst xs)), some (.d d)], ?_, by simp, zs ++ [d], o2, by rw [h1]; simp, h2.append (List.Sublist.refl _), by simp, j2⟩
        rw [← decide_eq_true q]
        exact ht
      · refine .inr ⟨[some o2, some (.d (.lst xs)), some (.d d)], ?_, zs ++ [d], o2, by rw [h1]; simp, h2.trans (List.sublist_append_left _ _), by simp, j2⟩
        rw [← decide_eq_false q]
        exact ht) xs [] [some o, some (.d (.lst xs)), none] ⟨[], o, rfl, List.Sublist.refl _, rfl, h⟩
  refine ⟨ys, o', ?_, j, ?_⟩
  · rw [hb]
    unfold b_l_some_of
    have hz : xs.length < 16777216 := by omega
    simp only [List.append_nil, List.nil_append] at h1 h3
    simp only [e_ret, e_lc, e_lcs, e_iter, e_var, List.getElem?_cons_succ, List.getElem?_cons_zero, Rs.bind_ok, v_iterL, e_ofO_some, e_wipe1, e_wipe0, List.set_cons_succ, List.set_cons_zero, size_e]
    rw [if_pos ⟨hz, rfl⟩, h1]
    rfl
  · rw [List.append_nil] at h2
    rw [h2]
    exact h3
end Mi
namespace Mi
open PySem DD
theorem nm_menu : ∀ x ∈ menu, Nm x := by
  intro x hx
  simp only [menu, List.mem_cons, List.not_mem_nil, or_false] at hx
  rcases hx with rfl | rfl | rfl | rfl | rfl | rfl | rfl | rfl | rfl | rfl | rfl | rfl | rfl
  all_goals exact ⟨by kernel_rfl, by decide +kernel⟩
theorem labels_nd {s g : Nat} (hs : s < 13) (hg : g ∈ [1, 2, 5, 7, 11]) : (labelsS s g).Nodup := by
  have key : ∀ s : Fin 13, ∀ g ∈ [1, 2, 5, 7, 11], (labelsS s.val g).Nodup := by decide +kernel
  exact key ⟨s, hs⟩ g hg
theorem labels_mem {s g : Nat} {x : Str} (h : x ∈ labelsS s g) : x ∈ menu := by
  unfold labelsS at h
  obtain ⟨k, hk, rfl⟩ := List.mem_map.mp h
  have hl : (s + g * k) % 13 < menu.length := by
    have : menu.length = 13 := rfl
    omega
  rw [List.getD_eq_getElem?_getD, List.getElem?_eq_getElem hl]
  exact List.getElem_mem hl
end Mi
namespace Mi
open PySem DD
theorem eq_zero (r : Nat) : eqD (.int (r : Nat)) (.int 0) = some (.bl (decide (r = 0))) := by
  rw [eq_pl rfl rfl]
  by_cases q : r = 0
  · simp [q]
  · have : ¬ ((r : Int) = 0) := by omega
    simp [q]
/-- one lot -/
theorem lot_ok {o : O} (h : Jar o) {ps : List Str} (hp : ps ≠ []) (hl : ps.length < 100) (r1 r2 r3 r4 r6 r7 r8 r9 r10 r11 r12 r13 r14 : Option O) :
    ∃ (l : List Str) (o' : O), l.Sublist ps ∧ Jar o' ∧
      (mSet 10 (mIf (mTest (mOp eqD (mCallI 0 m_l_dip (mCons (mC (.int 2)) mNil)) (mC (.int 0)))) (mCallI 0 m_l_some_of (mCons (mVar 5) mNil)) (mLst (mCons (mCallI 0 m_l_one_of (mCons (mVar 5) mNil)) mNil)))) [some o, r1, r2, r3, r4, some (.d (.lst (sl ps))), r6, r7, r8, r9, r10, r11, r12, r13, r14] =
        .nx [some o', r1, r2, r3, r4, some (.d (.lst (sl ps))), r6, r7, r8, r9, some (.d (.lst (sl l))), r11, r12, r13, r14] := by
  obtain ⟨r, o1, e1, j1, _⟩ := dip_ok h (top := 2) (by omega) (by omega)
  have hsl : (sl ps).length = ps.length := by simp [sl]
  have e0 : eqD (.int 0) (.int 0) = some (.bl true) := by
    have := eq_zero 0
    simpa using this
  by_cases q : r = 0
  · obtain ⟨ys, o2, e2, j2, hs⟩ := some_of_ok j1 (xs := sl ps) (by rw [hsl]; omega)
    obtain ⟨l, hl1, rfl⟩ : ∃ l : List Str, l.Sublist ps ∧ sl l = ys := by
      obtain ⟨l, h1, h2⟩ := List.sublist_map_iff.mp hs
      exact ⟨l, h1, h2.symm⟩
    exact ⟨l, o2, hl1, j2, by simp [mCallI, e1, e0, q, e2]⟩
  · obtain ⟨i, hi, o2, e2, j2⟩ := one_of_ok j1 (xs := sl ps) (by rw [hsl]; exact List.length_pos_iff.mpr hp) (by rw [hsl]; omega)
    rw [hsl] at hi
    have hx : (sl ps)[i]'(by rw [hsl]; exact hi) = .str ps[i] := by simp [sl]
    rw [hx] at e2
    exact ⟨[ps[i]], o2, List.singleton_sublist.mpr (List.getElem_mem hi), j2, by simp [mCallI, e1, eq_zero, q, e2, size_e, show sl [ps[i]] = [D.str ps[i]] from rfl]⟩
end Mi
namespace Mi
open PySem DD
open Classical in
theorem lots_ok {ps : List Str} (op : ∀ x ∈ ps, okS x) (hp : ps ≠ []) (hl : ps.length < 100) (r1 r2 r3 r4 r6 r8 r11 r12 r13 r14 : Option O) {o : O} (h : Jar o) (n : Nat) (hn : 0 < n) (hn2 : n < 100) (ds : List D) (hd : ds.length = n) :
    ∃ (o' : O) (L : List (List Str)) (v9 v10 : Option O), Jar o' ∧ L.Nodup ∧ (∀ l ∈ L, l.Sublist ps) ∧ L ≠ [] ∧ L.length ≤ n ∧
      DD.forM (gV 9) (mSeq (mSet 10 (mIf (mTest (mOp eqD (mCallI 0 m_l_dip (mCons (mC (.int 2)) mNil)) (mC (.int 0)))) (mCallI 0 m_l_some_of (mCons (mVar 5) mNil)) (mLst (mCons (mCallI 0 m_l_one_of (mCons (mVar 5) mNil)) mNil))))
  (mIfS (mTest (mOpR notInD (mCB tupleD (mCons (mVar 10) mNil)) 7)) (mApp 7 (mCB tupleD (mCons (mVar 10) mNil))) mSkip)) ds [some o, r1, r2, r3, r4, some (.d (.lst (sl ps))), r6, some (oL []), r8, none, none, r11, r12, r13, r14] =
        .nx [some o', r1, r2, r3, r4, some (.d (.lst (sl ps))), r6, some (oL (tl L)), r8, v9, v10, r11, r12, r13, r14] := by
  obtain ⟨e, h1, o', L, v9, v10, j, nd, sub, le, ne, rfl⟩ := forM_inv (tg := gV 9) (body := mSeq (mSet 10 (mIf (mTest (mOp eqD (mCallI 0 m_l_dip (mCons (mC (.int 2)) mNil)) (mC (.int 0)))) (mCallI 0 m_l_some_of (mCons (mVar 5) mNil)) (mLst (mCons (mCallI 0 m_l_one_of (mCons (mVar 5) mNil)) mNil))))
    (mIfS (mTest (mOpR notInD (mCB tupleD (mCons (mVar 10) mNil)) 7)) (mApp 7 (mCB tupleD (mCons (mVar 10) mNil))) mSkip))
    (fun ds env => ∃ (o' : O) (L : List (List Str)) (v9 v10 : Option O), Jar o' ∧ L.Nodup ∧ (∀ l ∈ L, l.Sublist ps) ∧ L.length + ds.length ≤ n ∧ (L ≠ [] ∨ ds.length = n) ∧ env = [some o', r1, r2, r3, r4, some (.d (.lst (sl ps))), r6, some (oL (tl L)), r8, v9, v10, r11, r12, r13, r14]) (fun d ds env hI => by
      obtain ⟨o', L, v9, v10, j, nd, sub, le, ne, rfl⟩ := hI
      obtain ⟨l, o2, hs, j2, hset⟩ := lot_ok j hp hl r1 r2 r3 r4 r6 (some (oL (tl L))) r8 (some (.d d)) v10 r11 r12 r13 r14
      have ol : ∀ m ∈ L, ∀ x ∈ m, okS x := fun m hm x hx => op x ((sub m hm).subset hx)
      have hni : notInD (.tup (sl l)) (.lst (tl L)) = some (.bl (decide (l ∉ L))) := by
        rw [notIn_plL (sl_tup fun x hx => op x (hs.subset hx)) (tl_pl ol)]
        simp [tl_mem]
      have hlen : (tl L).length < 16777216 := by
        unfold tl
        rw [List.length_map]
        rw [List.length_cons] at le
        omega
      rw [List.length_cons] at le
      by_cases q : l ∈ L
      · refine ⟨_, [some o2, r1, r2, r3, r4, some (.d (.lst (sl ps))), r6, some (oL (tl L)), r8, some (.d d), some (.d (.lst (sl l))), r11, r12, r13, r14], rfl, .inl ?_, o2, L, _, _, j2, nd, sub, by omega, .inl (List.ne_nil_of_mem q), rfl⟩
        simp only [List.set_cons_succ, List.set_cons_zero]
        rw [e_seq, hset, andThen_nx]
        simp [mOpR, hni, q]
      · refine ⟨_, [some o2, r1, r2, r3, r4, some (.d (.lst (sl ps))), r6, some (oL (tl (L ++ [l]))), r8, some (.d d), some (.d (.lst (sl l))), r11, r12, r13, r14], rfl, .inl ?_, o2, L ++ [l], _, _, j2, ?_, ?_, ?_, .inl (by simp), rfl⟩
        · simp only [List.set_cons_succ, List.set_cons_zero]
          rw [e_seq, hset, andThen_nx]
          have ht : (mTest (mOpR notInD (mCB tupleD (mCons (mVar 10) mNil)) 7)) [some o2, r1, r2, r3, r4, some (.d (.lst (sl ps))), r6, some (oL (tl L)), r8, some (.d d), some (.d (.lst (sl l))), r11, r12, r13, r14] = .ok true [some o2, r1, r2, r3, r4, some (.d (.lst (sl ps))), r6, some (oL (tl L)), r8, some (.d d), some (.d (.lst (sl l))), r11, r12, r13, r14] := by
            simp [mOpR, hni, q]
          rw [e_ifS, ht, Rs.on_ok, if_pos rfl]
          refine (e_app (i := 7) (e := [some o2, r1, r2, r3, r4, some (.d (.lst (sl ps))), r6, some (oL (tl L)), r8, some (.d d), some (.d (.lst (sl l))), r11, r12, r13, r14]) (d := .tup (sl l)) (os := (tl L).map .d) ⟨_, rfl⟩ (by simp) rfl (by rw [List.length_map, size_e]; exact hlen)).trans ?_
          have : (tl L).map O.d ++ [.d (.tup (sl l))] = (tl (L ++ [l])).map O.d := by
            unfold tl
            simp
          rw [this]
          rfl
        · rw [List.nodup_append]
          exact ⟨nd, by simp, fun a ha b hb e => by
            rw [List.mem_singleton.mp hb] at e
            exact q (e ▸ ha)⟩
        · intro m hm
          rcases List.mem_append.mp hm with hm | hm
          · exact sub m hm
          · rw [List.mem_singleton.mp hm]
            exact hs
        · rw [List.length_append, List.length_singleton]
          omega) ds _ ⟨o, [], none, none, h, List.nodup_nil, by simp, by simp [hd], .inr hd, rfl⟩
  refine ⟨o', L, v9, v10, j, nd, sub, ?_, by simpa using le, h1⟩
  rcases ne with ne | ne
  · exact ne
  · rw [List.length_nil] at ne
    omega
end Mi
namespace Mi
open PySem DD
open Classical in
/-- the pairs of one asker -/
theorem pairs_one {as : List Str} (oa : ∀ x ∈ as, okS x) {one : Str} (oo : okS one) (hl : as.length < 100) {o : O} (h : Jar o) (t : Nat) (r1 r2 r3 r4 r5 r7 r8 r9 r10 r13 v : Option O) :
    ∃ (o' : O) (bs : List Str), Jar o' ∧ bs.Sublist as ∧ one ∉ bs ∧
      (mLc (mIter (mVar 6)) (gV 14) (mAnd (mTest (mOp neD (mVar 14) (mVar 12))) (mTest (mOp ltD (mCallI 0 m_l_dip (mCons (mC (.int 4)) mNil)) (mVar 11)))) (mTup (mCons (mVar 12) (mCons (mVar 14) mNil))) [14])
        [some o, r1, r2, r3, r4, r5, some (.d (.lst (sl as))), r7, r8, r9, r10, some (.d (.int (t : Nat))), some (.d (.str one)), r13, v] =
      .ok (.lst (pl (bs.map fun b => (one, b)))) [some o', r1, r2, r3, r4, r5, some (.d (.lst (sl as))), r7, r8, r9, r10, some (.d (.int (t : Nat))), some (.d (.str one)), r13, none] := by
  obtain ⟨ys, e, h1, o', zs, bs, hz, hs, hn, hy, rfl, j⟩ := lcM_inv (tg := gV 14) (tst := mAnd (mTest (mOp neD (mVar 14) (mVar 12))) (mTest (mOp ltD (mCallI 0 m_l_dip (mCons (mC (.int 4)) mNil)) (mVar 11)))) (elt := mTup (mCons (mVar 12) (mCons (mVar 14) mNil))) (vs := [14])
    (fun ds acc env => ∃ (o' : O) (zs : List Str) (bs : List Str), (∃ rest, as = zs ++ rest ∧ ds = sl rest) ∧ bs.Sublist zs ∧ one ∉ bs ∧ acc = pl (bs.map fun b => (one, b)) ∧ env = [some o', r1, r2, r3, r4, r5, some (.d (.lst (sl as))), r7, r8, r9, r10, some (.d (.int (t : Nat))), some (.d (.str one)), r13, none] ∧ Jar o')
    (fun d ds acc env hI => by
      obtain ⟨o', zs, bs, ⟨rest, ha, hd⟩, hs, hn, rfl, rfl, j⟩ := hI
      cases rest with
      | nil => cases hd
      | cons y rest =>
        have hd' : d :: ds = .str y :: sl rest := hd
        obtain ⟨rfl, rfl⟩ := List.cons.inj hd'
        have oy : okS y := oa y (by rw [ha]; simp)
        have hne := ne_pl (pl_str (n := 60) oy) (pl_str (n := 60) oo)
        refine ⟨_, rfl, ?_⟩
        have ha' : as = (zs ++ [y]) ++ rest := by rw [ha]; simp
        by_cases q : y = one
        · refine .inr ⟨[some o', r1, r2, r3, r4, r5, some (.d (.lst (sl as))), r7, r8, r9, r10, some (.d (.int (t : Nat))), some (.d (.str one)), r13, some (.d (.str y))], ?_, o', zs ++ [y], bs, ⟨rest, ha', rfl⟩, hs.trans (List.sublist_append_left _ _), hn, rfl, by simp, j⟩
          subst q
          simp [hne]
        · obtain ⟨r, o2, e, j2, _⟩ := dip_ok j (top := 4) (by omega) (by omega)
          have ht : (mAnd (mTest (mOp neD (mVar 14) (mVar 12))) (mTest (mOp ltD (mCallI 0 m_l_dip (mCons (mC (.int 4)) mNil)) (mVar 11)))) ([some o', r1, r2, r3, r4, r5, some (.d (.lst (sl as))), r7, r8, r9, r10, some (.d (.int (t : Nat))), some (.d (.str one)), r13, none].set 14 (some (.d (.str y)))) = .ok (decide (r < t)) [some o2, r1, r2, r3, r4, r5, some (.d (.lst (sl as))), r7, r8, r9, r10, some (.d (.int (t : Nat))), some (.d (.str one)), r13, some (.d (.str y))] := by
            simp [hne, q, mCallI, e]
          by_cases z : r < t
          · rw [decide_eq_true z] at ht
            refine .inl ⟨_, .tup [.str one, .str y], [some o2, r1, r2, r3, r4, r5, some (.d (.lst (sl as))), r7, r8, r9, r10, some (.d (.int (t : Nat))), some (.d (.str one)), r13, some (.d (.str y))], ht, by simp [size_e], o2, zs ++ [y], bs ++ [y], ⟨rest, ha', rfl⟩, hs.append (List.Sublist.refl _), ?_, by simp [pl], by simp, j2⟩
            simp [hn]
            exact fun e => q e.symm
          · rw [decide_eq_false z] at ht
            exact .inr ⟨_, ht, o2, zs ++ [y], bs, ⟨rest, ha', rfl⟩, hs.trans (List.sublist_append_left _ _), hn, rfl, by simp, j2⟩) (sl as) [] [some o, r1, r2, r3, r4, r5, some (.d (.lst (sl as))), r7, r8, r9, r10, some (.d (.int (t : Nat))), some (.d (.str one)), r13, none] ⟨o, [], [], ⟨as, rfl, rfl⟩, List.Sublist.refl _, by simp, rfl, rfl, h⟩
  refine ⟨o', bs, j, ?_, hn, ?_⟩
  · obtain ⟨rest, ha, hd⟩ := hz
    rw [ha]
    exact hs.trans (List.sublist_append_left _ _)
  · rw [List.nil_append] at hy
    subst hy
    have hz' : (sl as).length < 16777216 := by
      unfold sl
      rw [List.length_map]
      omega
    simp only [e_lc, e_lcs, e_iter, e_var, List.getElem?_cons_zero, List.getElem?_cons_succ, Rs.bind_ok, v_iterL, e_ofO_some, size_e]
    rw [if_pos ⟨hz', rfl⟩, e_wipe1, e_wipe0]
    simp only [List.set_cons_succ, List.set_cons_zero]
    rw [h1]
    rfl
end Mi
namespace Mi
open PySem DD
theorem pairs_ok {as : List Str} (oa : ∀ x ∈ as, okS x) (nda : as.Nodup) (hl : as.length ≤ 5) (t : Nat) (r1 r2 r3 r4 r5 r7 r9 r10 r13 : Option O) : ∀ (todo done : List Str), as = done ++ todo → ∀ (o : O) (ps : List (Str × Str)) (v12 v14 : Option O), Jar o → ps.Nodup → (∀ p ∈ ps, p.1 ∈ done ∧ p.2 ∈ as ∧ p.1 ≠ p.2) → ps.length ≤ done.length * 5 →
    ∃ (o' : O) (qs : List (Str × Str)) (v12' v14' : Option O), Jar o' ∧ qs.Nodup ∧ (∀ p ∈ qs, p.1 ∈ as ∧ p.2 ∈ as ∧ p.1 ≠ p.2) ∧
      DD.forM (gV 12) (mSet 8 (mOp addD (mVar 8) (mLc (mIter (mVar 6)) (gV 14) (mAnd (mTest (mOp neD (mVar 14) (mVar 12))) (mTest (mOp ltD (mCallI 0 m_l_dip (mCons (mC (.int 4)) mNil)) (mVar 11)))) (mTup (mCons (mVar 12) (mCons (mVar 14) mNil))) [14]))) (sl todo)
        [some o, r1, r2, r3, r4, r5, some (.d (.lst (sl as))), r7, some (.d (.lst (pl ps))), r9, r10, some (.d (.int (t : Nat))), v12, r13, v14] =
      .nx [some o', r1, r2, r3, r4, r5, some (.d (.lst (sl as))), r7, some (.d (.lst (pl qs))), r9, r10, some (.d (.int (t : Nat))), v12', r13, v14']
  | [], done, hd, o, ps, v12, v14, j, nd, hp, _ => ⟨o, ps, v12, v14, j, nd, fun p h => ⟨by
      rw [hd, List.append_nil]
      exact (hp p h).1, (hp p h).2⟩, rfl⟩
  | one :: todo, done, hd, o, ps, v12, v14, j, nd, hp, hb => by
    have ho : one ∈ as := by rw [hd]; simp
    obtain ⟨o1, bs, j1, hs, hn, e⟩ := pairs_one oa (oa one ho) (by omega) j t r1 r2 r3 r4 r5 r7 (some (.d (.lst (pl ps)))) r9 r10 r13 v14
    have hnd : one ∉ done := fun z => by
      rw [hd] at nda
      exact (List.nodup_append.mp nda).2.2 one z one List.mem_cons_self rfl
    have hbl := hs.length_le
    have hlen : done.length + (todo.length + 1) = as.length := by rw [hd]; simp
    have hsz : (pl ps).length + (pl (bs.map fun b => (one, b))).length ≤ 16777216 := by
      unfold pl
      rw [List.length_map, List.length_map, List.length_map]
      have : done.length * 5 ≤ 5 * 5 := Nat.mul_le_mul_right _ (by omega)
      omega
    have nd2 : (ps ++ bs.map fun b => (one, b)).Nodup := by
      rw [List.nodup_append]
      refine ⟨nd, ?_, fun a ha b hb' e => ?_⟩
      · exact List.Pairwise.map _ (fun a b (h : a ≠ b) => fun z => h (Prod.mk.inj z).2) (hs.nodup nda)
      · subst e
        obtain ⟨b, _, rfl⟩ := List.mem_map.mp hb'
        exact hnd (hp _ ha).1
    obtain ⟨o', qs, v12', v14', j', nq, hq, h⟩ := pairs_ok oa nda hl t r1 r2 r3 r4 r5 r7 r9 r10 r13 todo (done ++ [one]) (by rw [hd]; simp) o1 (ps ++ bs.map fun b => (one, b)) (some (.d (.str one))) none j1 nd2 (fun p hp' => by
      rcases List.mem_append.mp hp' with z | z
      · exact ⟨List.mem_append_left _ (hp p z).1, (hp p z).2⟩
      · obtain ⟨b, hb', rfl⟩ := List.mem_map.mp z
        exact ⟨by simp, hs.subset hb', fun e => hn (by rw [show one = b from e]; exact hb')⟩) (by
      rw [List.length_append, List.length_append, List.length_map, List.length_singleton, Nat.add_mul]
      omega)
    refine ⟨o', qs, v12', v14', j', nq, hq, ?_⟩
    rw [← h]
    show DD.forM _ _ (.str one :: sl todo) _ = _
    rw [DD.forM]
    simp only [gV, List.set_cons_succ, List.set_cons_zero]
    rw [e_set, e_op]
    simp only [e_var, List.getElem?_cons_zero, List.getElem?_cons_succ, Rs.bind_ok]
    rw [e]
    simp only [Rs.bind_ok, DD.v_addL, size_e]
    rw [if_pos hsz]
    simp only [e_ofO_some, Rs.on_ok, List.set_cons_succ, List.set_cons_zero]
    unfold pl
    rw [List.map_append]
end Mi
namespace Mi
open PySem DD
/-- each place alone, or what was drawn -/
theorem alone_ok {o : O} (h : Jar o) {ps : List Str} (hl : ps.length ≤ 8) (r1 r2 r3 r4 r6 r8 r9 r10 r11 r12 r14 : Option O) {L : List (List Str)} (nd : ps.Nodup) (hp : ps ≠ []) (hL : L.Nodup ∧ (∀ l ∈ L, l.Sublist ps) ∧ L ≠ [] ∧ L.length ≤ 8) :
    ∃ (o' v7 : O) (fs : List (List Str)) (v13 : Option O), Jar o' ∧ fs.Nodup ∧ (∀ l ∈ fs, l.Sublist ps) ∧ fs ≠ [] ∧ fs.length ≤ 8 ∧ fz v7 = .lst (tl fs) ∧
      (mIfS (mTest (mOp eqD (mCallI 0 m_l_dip (mCons (mC (.int 3)) mNil)) (mC (.int 0)))) (mSet 7 (mLc (mIter (mVar 5)) (gV 13) mYes (mTup (mCons (mVar 13) mNil)) [13])) mSkip)
        [some o, r1, r2, r3, r4, some (.d (.lst (sl ps))), r6, some (oL (tl L)), r8, r9, r10, r11, r12, none, r14] =
        .nx [some o', r1, r2, r3, r4, some (.d (.lst (sl ps))), r6, some v7, r8, r9, r10, r11, r12, v13, r14] := by
  obtain ⟨r, o1, e1, j1, _⟩ := dip_ok h (top := 3) (by omega) (by omega)
  have e0 : eqD (.int 0) (.int 0) = some (.bl true) := by
    have := eq_zero 0
    simpa using this
  by_cases q : r = 0
  · refine ⟨o1, .d (.lst (tl (ps.map fun p => [p]))), ps.map fun p => [p], none, j1, ?_, ?_, ?_, ?_, rfl, ?_⟩
    · exact List.Pairwise.map _ (fun a b (h : a ≠ b) => fun z => h (List.cons.inj z).1) nd
    · intro l hl
      obtain ⟨p, hp, rfl⟩ := List.mem_map.mp hl
      exact List.singleton_sublist.mpr hp
    · simpa using hp
    · simpa using hl
    · have ht : (mTest (mOp eqD (mCallI 0 m_l_dip (mCons (mC (.int 3)) mNil)) (mC (.int 0)))) [some o, r1, r2, r3, r4, some (.d (.lst (sl ps))), r6, some (oL (tl L)), r8, r9, r10, r11, r12, none, r14] = .ok true [some o1, r1, r2, r3, r4, some (.d (.lst (sl ps))), r6, some (oL (tl L)), r8, r9, r10, r11, r12, none, r14] := by
        simp [mCallI, e1, eq_zero, q, e0]
      rw [e_ifS, ht, Rs.on_ok, if_pos rfl, e_set]
      have hz : (sl ps).length < 16777216 := by
        unfold sl
        rw [List.length_map]
        omega
      have hc := lcM_pure (i := 13) (tst := mYes) (elt := mTup (mCons (mVar 13) mNil)) (env := [some o1, r1, r2, r3, r4, some (.d (.lst (sl ps))), r6, some (oL (tl L)), r8, r9, r10, r11, r12, none, r14]) (p := fun _ => true) (g := fun d => .tup [d]) rfl (sl ps) (fun d hd => ⟨rfl, fun _ => by simp [size_e]⟩)
      simp only [e_lc, e_lcs, e_iter, e_var, List.getElem?_cons_zero, List.getElem?_cons_succ, Rs.bind_ok, v_iterL, e_ofO_some, size_e]
      rw [if_pos ⟨hz, rfl⟩, e_wipe1, e_wipe0]
      simp only [List.set_cons_succ, List.set_cons_zero]
      rw [hc, List.filter_eq_self.mpr (fun _ _ => rfl)]
      have ee : (sl ps).map (fun d => D.tup [d]) = tl (ps.map fun p => [p]) := by
        unfold sl tl
        rw [List.map_map, List.map_map]
        rfl
      rw [ee]
      rfl
  · refine ⟨o1, oL (tl L), L, none, j1, hL.1, hL.2.1, hL.2.2.1, hL.2.2.2, ?_, ?_⟩
    · show D.lst (fzs ((tl L).map O.d)) = _
      rw [fzs_map]
    · have ht : (mTest (mOp eqD (mCallI 0 m_l_dip (mCons (mC (.int 3)) mNil)) (mC (.int 0)))) [some o, r1, r2, r3, r4, some (.d (.lst (sl ps))), r6, some (oL (tl L)), r8, r9, r10, r11, r12, none, r14] = .ok false [some o1, r1, r2, r3, r4, some (.d (.lst (sl ps))), r6, some (oL (tl L)), r8, r9, r10, r11, r12, none, r14] := by
        simp [mCallI, e1, eq_zero, q, e0]
      rw [e_ifS, ht, Rs.on_ok]
      rfl
theorem frame_ok {o : O} (h : Jar o) {a b : Nat} (ha : 1 ≤ a) (ha2 : a ≤ 8) (hb : 1 ≤ b) (hb2 : b ≤ 5) : ∃ (hs : List Str) (fs : List (List Str)) (rs : List Str) (ps : List (Str × Str)) (o' : O),
    m_l_frame o [.int (a : Nat), .int (b : Nat)] = .ok (.lst [.lst (sl hs), .lst (tl fs), .lst (sl rs), .lst (pl ps)]) o' ∧ Jar o' ∧ Fr hs fs rs ps ∧ (∀ x ∈ hs, x ∈ menu) ∧ (∀ x ∈ rs, x ∈ menu) ∧ hs.length ≤ a ∧ rs.length ≤ b := by
  obtain ⟨s, g, o1, hs', hg, e1, j1⟩ := labels_ok h
  obtain ⟨r, o2, e2, j2, hr⟩ := dip_ok j1 (top := (a : Int)) (by omega) (by omega)
  obtain ⟨r2, o3, e3, j3, hr2⟩ := dip_ok j2 (top := (b : Int)) (by omega) (by omega)
  obtain ⟨r3, o4, e4, j4, hr3⟩ := dip_ok j3 (top := 4) (by omega) (by omega)
  have hlen : (labelsS s g).length = 13 := by simp [labelsS]
  have nd := labels_nd hs' hg
  have hmem : ∀ x ∈ labelsS s g, Nm x := fun x hx => nm_menu x (labels_mem hx)
  generalize hP : (labelsS s g).take (1 + r) = P
  generalize hA : ((labelsS s g).take (9 + r2)).drop 8 = A
  have lP : P.length = 1 + r := by
    rw [← hP, List.length_take]
    omega
  have lA : A.length = 1 + r2 := by
    rw [← hA, List.length_drop, List.length_take]
    omega
  have sP : P.Sublist (labelsS s g) := by rw [← hP]; exact List.take_sublist _ _
  have sA : A.Sublist (labelsS s g) := by rw [← hA]; exact (List.drop_sublist _ _).trans (List.take_sublist _ _)
  have dis : ∀ x ∈ A, x ∉ P := by
    intro x hx hx2
    have h1 : x ∈ (labelsS s g).drop 8 := by
      rw [← hA, List.drop_take] at hx
      exact List.mem_of_mem_take hx
    have h2 : x ∈ (labelsS s g).take 8 := by
      have : P = ((labelsS s g).take 8).take (1 + r) := by
        rw [List.take_take, ← hP]
        congr 1
        omega
      rw [this] at hx2
      exact List.mem_of_mem_take hx2
    have nd' := nd
    rw [← List.take_append_drop 8 (labelsS s g), List.nodup_append] at nd'
    exact nd'.2.2 x h2 x h1 rfl
  have oP : ∀ x ∈ P, okS x := fun x hx => (hmem x (sP.subset hx)).2
  have oA : ∀ x ∈ A, okS x := fun x hx => (hmem x (sA.subset hx)).2
  have nP : P ≠ [] := fun e => by
    rw [e] at lP
    simp at lP
    omega
  have nA : A ≠ [] := fun e => by
    rw [e] at lA
    simp at lA
    omega
  have g1 : (mPar2 3 4 (mD (mCallI 0 m_l_labels mNil)) (mD (mOp addD (mC (.int 1)) (mCallI 0 m_l_dip (mCons (mVar 1) mNil))))) [some o, some (.d (.int a)), some (.d (.int b)), none, none, none, none, none, none, none, none, none, none, none, none] =
      .nx [some o2, some (.d (.int a)), some (.d (.int b)), some (.d (.lst (sl (labelsS s g)))), some (.d (.int (1 + (r : Nat)))), none, none, none, none, none, none, none, none, none, none] := by
    have e1' : m_l_labels o [] = .ok (.lst (sl (labelsS s g))) o1 := e1
    simp [mCallI, e1', e2]
  have c1 : cutD (sl (labelsS s g)) none (some (1 + (r : Int))) = sl P := by
    have := v_cut0 (xs := sl (labelsS s g)) (b := 1 + r)
    rw [sl_take, hP] at this
    rw [← this]
    norm_cast
  have c2 : cutD (sl (labelsS s g)) (some 8) (some (9 + (r2 : Int))) = sl A := by
    have := v_cut (xs := sl (labelsS s g)) (a := 8) (b := 9 + r2)
    rw [sl_take, show (sl ((labelsS s g).take (9 + r2))).drop 8 = sl (((labelsS s g).take (9 + r2)).drop 8) from List.map_drop.symm, hA] at this
    rw [← this]
    norm_cast
  have g2 : (mPar2 5 6 (mD (mSlice (mVar 3) mNoPart (mPart (mVar 4)))) (mD (mSlice (mVar 3) (mPart (mC (.int 8))) (mPart (mOp addD (mC (.int 9)) (mCallI 0 m_l_dip (mCons (mVar 2) mNil))))))) [some o2, some (.d (.int a)), some (.d (.int b)), some (.d (.lst (sl (labelsS s g)))), some (.d (.int (1 + (r : Nat)))), none, none, none, none, none, none, none, none, none, none] =
      .nx [some o3, some (.d (.int a)), some (.d (.int b)), some (.d (.lst (sl (labelsS s g)))), some (.d (.int (1 + (r : Nat)))), some (.d (.lst (sl P))), some (.d (.lst (sl A))), none, none, none, none, none, none, none, none] := by
    simp [mCallI, e3, c1, c2]
  have g3 : (mPar2 7 8 (mLstO mNil) (mD (mLst mNil))) [some o3, some (.d (.int a)), some (.d (.int b)), some (.d (.lst (sl (labelsS s g)))), some (.d (.int (1 + (r : Nat)))), some (.d (.lst (sl P))), some (.d (.lst (sl A))), none, none, none, none, none, none, none, none] =
      .nx [some o3, some (.d (.int a)), some (.d (.int b)), some (.d (.lst (sl (labelsS s g)))), some (.d (.int (1 + (r : Nat)))), some (.d (.lst (sl P))), some (.d (.lst (sl A))), some (oL []), some (.d (.lst (pl []))), none, none, none, none, none, none] := by
    simp [size_e, pl]
  have g4 : (mRng (mCons (mOp addD (mC (.int 1)) (mCallI 0 m_l_dip (mCons (mC (.int 4)) mNil))) mNil)) [some o3, some (.d (.int a)), some (.d (.int b)), some (.d (.lst (sl (labelsS s g)))), some (.d (.int (1 + (r : Nat)))), some (.d (.lst (sl P))), some (.d (.lst (sl A))), some (oL []), some (.d (.lst (pl []))), none, none, none, none, none, none] =
      .ok ((List.range (1 + r3)).map fun k => .int (k : Nat)) [some o4, some (.d (.int a)), some (.d (.int b)), some (.d (.lst (sl (labelsS s g)))), some (.d (.int (1 + (r : Nat)))), some (.d (.lst (sl P))), some (.d (.lst (sl A))), some (oL []), some (.d (.lst (pl []))), none, none, none, none, none, none] := by
    have := v_range1 (n := 1 + r3) (by omega)
    have c : (((1 + r3 : Nat)) : Int) = 1 + (r3 : Int) := by omega
    rw [c] at this
    simp [mCallI, e4, this]
  obtain ⟨o5, L, v9, v10, j5, ndL, subL, neL, lenL, eL⟩ := lots_ok oP nP (by omega) (some (.d (.int a))) (some (.d (.int b))) (some (.d (.lst (sl (labelsS s g))))) (some (.d (.int (1 + (r : Nat))))) (some (.d (.lst (sl A)))) (some (.d (.lst (pl [])))) none none none none j4 (1 + r3) (by omega) (by omega) ((List.range (1 + r3)).map fun k => .int (k : Nat)) (by simp)
  obtain ⟨o6, v7, fs, v13, j6, ndf, subf, nef, lenf, ez, e6⟩ := alone_ok j5 (ps := P) (by omega) (some (.d (.int a))) (some (.d (.int b))) (some (.d (.lst (sl (labelsS s g))))) (some (.d (.int (1 + (r : Nat))))) (some (.d (.lst (sl A)))) (some (.d (.lst (pl [])))) v9 v10 none none none (L := L) (sP.nodup nd) nP ⟨ndL, subL, neL, by omega⟩
  obtain ⟨t, o7, e7, j7, _⟩ := dip_ok j6 (top := 4) (by omega) (by omega)
  have g7 : (mSet 11 (mCallI 0 m_l_dip (mCons (mC (.int 4)) mNil))) [some o6, some (.d (.int a)), some (.d (.int b)), some (.d (.lst (sl (labelsS s g)))), some (.d (.int (1 + (r : Nat)))), some (.d (.lst (sl P))), some (.d (.lst (sl A))), some v7, some (.d (.lst (pl []))), v9, v10, none, none, v13, none] =
      .nx [some o7, some (.d (.int a)), some (.d (.int b)), some (.d (.lst (sl (labelsS s g)))), some (.d (.int (1 + (r : Nat)))), some (.d (.lst (sl P))), some (.d (.lst (sl A))), some v7, some (.d (.lst (pl []))), v9, v10, some (.d (.int (t : Nat))), none, v13, none] := by
    simp [mCallI, e7]
  obtain ⟨o8, qs, v12, v14, j8, ndq, hq, e8⟩ := pairs_ok oA (sA.nodup nd) (by omega) t (some (.d (.int a))) (some (.d (.int b))) (some (.d (.lst (sl (labelsS s g))))) (some (.d (.int (1 + (r : Nat))))) (some (.d (.lst (sl P)))) (some v7) v9 v10 v13 A [] rfl o7 [] none none j7 List.nodup_nil (by simp) (by simp)
  refine ⟨P, fs, A, qs, o8, ?_, j8, ?_, fun x hx => labels_mem (sP.subset hx), fun x hx => labels_mem (sA.subset hx), by omega, by omega⟩
  · have hb' : m_l_frame o [.int (a : Nat), .int (b : Nat)] = finI (b_l_frame [some o, some (.d (.int a)), some (.d (.int b)), none, none, none, none, none, none, none, none, none, none, none, none]) := rfl
    rw [hb']
    unfold b_l_frame
    rw [e_seq, g1, andThen_nx, e_seq, g2, andThen_nx, e_seq, g3, andThen_nx, e_seq, e_for, g4, Rs.on_ok, eL, andThen_nx, e_seq, e6, andThen_nx, e_seq, g7, andThen_nx, e_seq, e_for, e_iter]
    simp only [e_var, List.getElem?_cons_zero, List.getElem?_cons_succ, Rs.bind_ok, v_iterL, e_ofO_some, Rs.on_ok]
    rw [e8, andThen_nx, e_frz (o := v7) rfl, ez]
    simp [size_e, finI]
  · exact ⟨fun x hx => hmem x (sP.subset hx), fun x hx => hmem x (sA.subset hx), sP.nodup nd, sA.nodup nd, dis, nP, nef, nA, by omega, by omega, lenf, subf, ndf, hq, ndq⟩
end Mi
namespace Mi
open PySem DD
theorem menu_len : ∀ x ∈ menu, x.length ≤ 8 := by decide +kernel
end Mi
namespace Mi
open PySem DD
def settingD (hs : List Str) (fs : List (List Str)) (rs : List Str) (ps : List (Str × Str)) : D := .ins "Setting" ["houses", "fails", "readers", "promises"] [.tup (sl hs), .tup (tl fs), .tup (sl rs), .tup (pl ps)]
theorem built_ok {hs : List Str} {fs : List (List Str)} {rs : List Str} {ps : List (Str × Str)} (h : Fr hs fs rs ps) : m_l_built [.lst [.lst (sl hs), .lst (tl fs), .lst (sl rs), .lst (pl ps)]] = .ok (settingD hs fs rs ps) := by
  have hb : m_l_built [.lst [.lst (sl hs), .lst (tl fs), .lst (sl rs), .lst (pl ps)]] = finP (b_l_built [some (.d (.lst [.lst (sl hs), .lst (tl fs), .lst (sl rs), .lst (pl ps)]))]) := rfl
  rw [hb]
  unfold b_l_built
  have := init_ok h
  simp [mMake, this, finP, settingO, settingD]
end Mi
namespace Mi
open PySem DD
end Mi
namespace DD
open PySem PySem.Spec PyProof.Rows L2
/-- a comprehension of one clause over one name -/
theorem lc_pure {α : Type} {i : Nat} {it : MA} {tst : MB} {elt : MD} {env : DEnv} (c : α → D) (xs : List α) (p : α → Bool) (g : α → D) (hi : it env = .ok (xs.map c) env) (hl : xs.length < 16777216) (hn : i < env.length)
    (ht : ∀ x ∈ xs, tst (env.set i (some (.d (c x)))) = .ok (p x) (env.set i (some (.d (c x)))))
    (he : ∀ x ∈ xs, p x = true → elt (env.set i (some (.d (c x)))) = .ok (g x) (env.set i (some (.d (c x))))) : mLc it (gV i) tst elt [i] env = .ok (.lst ((xs.filter p).map g)) (env.set i none) := by
  have key : ∀ (ys : List α), (∀ y ∈ ys, y ∈ xs) → lcM (gV i) tst elt [i] (ys.map c) (env.set i none) = .ok ((ys.filter p).map g) (env.set i none) := by
    intro ys
    induction ys with
    | nil => intro _; rfl
    | cons y ys ih =>
      intro hy
      have ih := ih fun z hz => hy z (List.mem_cons_of_mem _ hz)
      have h1 := ht y (hy y List.mem_cons_self)
      have back : wipeE (env.set i (some (.d (c y)))) [i] = env.set i none := by
        show ((env.set i (some (.d (c y)))).set i none) = _
        rw [List.set_set]
      rw [List.map_cons]
      unfold lcM
      simp only [gV, List.set_set, h1]
      cases hp : p y with
      | true =>
        simp only [he y (hy y List.mem_cons_self) hp, back, ih, Rs.bind_ok, List.filter_cons, hp, if_true, List.map_cons]
      | false =>
        simp only [back, ih, List.filter_cons, hp, Bool.false_eq_true, if_false]
  rw [e_lc, e_lcs, hi, Rs.bind_ok, size_e, if_pos ⟨by rw [List.length_map]; exact hl, by simp [hn]⟩, e_wipe1, e_wipe0, key xs fun _ h => h]
  rfl
/-- without a test -/
theorem lc_map {α : Type} {i : Nat} {it : MA} {elt : MD} {env : DEnv} (c : α → D) (xs : List α) (g : α → D) (hi : it env = .ok (xs.map c) env) (hl : xs.length < 16777216) (hn : i < env.length)
    (he : ∀ x ∈ xs, elt (env.set i (some (.d (c x)))) = .ok (g x) (env.set i (some (.d (c x))))) : mLc it (gV i) mYes elt [i] env = .ok (.lst (xs.map g)) (env.set i none) := by
  have := lc_pure (tst := mYes) c xs (fun _ => true) g hi hl hn (fun _ _ => rfl) fun x hx _ => he x hx
  rwa [List.filter_eq_self.mpr fun _ _ => rfl] at this
theorem bools_maps {α : Type} (f : α → Bool) : ∀ ks : List α, bools (ks.map fun k => .bl (f k)) = some (ks.map f)
  | [] => rfl
  | k :: ks => by
    show (bools (ks.map fun k => .bl (f k))).map _ = _
    rw [bools_maps f ks]
    rfl
theorem v_all {α : Type} (f : α → Bool) (ks : List α) : allD [.lst (ks.map fun k => .bl (f k))] = some (.bl (ks.all f)) := by
  show (bools _).map _ = _
  rw [bools_maps, Option.map_some, List.all_map]
  rfl
theorem v_any {α : Type} (f : α → Bool) (ks : List α) : anyD [.lst (ks.map fun k => .bl (f k))] = some (.bl (ks.any f)) := by
  show (bools _).map _ = _
  rw [bools_maps, Option.map_some, List.any_map]
  rfl
@[simp] theorem e_rng3 {as : MA} {env : DEnv} : mRng3 as env = (as env).bind fun xs e => ofO (rngD3 xs) e := id rfl
/-- a call, as a step on results -/
def asP : RP → DEnv → Rs D
  | .ok d, e => .ok d e
  | .exc x, e => .exc x e
  | _, _ => .fail
@[simp] theorem asP_ok {d : D} {e : DEnv} : asP (.ok d) e = .ok d e := rfl
@[simp] theorem asP_exc {x : Exn} {e : DEnv} : asP (.exc x) e = .exc x e := rfl
theorem e_mCall {f : List D → RP} {m : MA} {env : DEnv} : mCall f m env = (m env).bind fun ds e => asP (f ds) e := by
  unfold mCall
  cases m env with
  | ok ds e =>
    show (match f ds with | .ok d => Rs.ok d e | .exc x => .exc x e | _ => .fail) = asP (f ds) e
    cases f ds <;> rfl
  | exc x e => rfl
  | fail => rfl
end DD
namespace Mi
open PySem DD
def frameD (hs : List Str) (fs : List (List Str)) (rs : List Str) (ps : List (Str × Str)) : D := .lst [.lst (sl hs), .lst (tl fs), .lst (sl rs), .lst (pl ps)]
def falls (fs : List (List Str)) (l : List Str) : Bool := fs.any fun part => l.all fun h => decide (h ∈ part)
theorem e_mIter {env e : DEnv} {a : MD} {x : D} {xs : List D} (h : a env = .ok x e) (hx : iterD x = some xs) : mIter a env = .ok xs e := by
  rw [e_iter, h, Rs.bind_ok, hx, e_ofO_some]
/-- all of some are in one -/
theorem all_in {i j k : Nat} {l part : List Str} {env : DEnv} {x : D} (ol : ∀ y ∈ l, okS y) (op : ∀ y ∈ part, okS y) (hl : l.length < 16777216) (hx : iterD x = some (sl l)) (h1 : env[i]? = some (some (.d x))) (h2 : env[j]? = some (some (.d (.tup (sl part))))) (hk : env[k]? = some none) (hij : j ≠ k) :
    (mCB allD (mCons (mLc (mIter (mVar i)) (gV k) mYes (mOp inD (mVar k) (mVar j)) [k]) mNil)) env = .ok (.bl (l.all fun h => decide (h ∈ part))) env := by
  have hkl : k < env.length := (List.getElem?_eq_some_iff.mp hk).1
  have hw : env.set k none = env := by
    obtain ⟨h3, h4⟩ := List.getElem?_eq_some_iff.mp hk
    have := List.set_getElem_self h3
    rw [h4] at this
    exact this
  have hlc := lc_map (i := k) (it := mIter (mVar i)) (elt := mOp inD (mVar k) (mVar j)) (env := env) D.str l (fun h => .bl (decide (h ∈ part))) (e_mIter (by simp [h1]) hx) hl hkl fun y hy => by
    have g1 : (env.set k (some (O.d (.str y))))[k]? = some (some (.d (.str y))) := by simp [hkl]
    have g2 : (env.set k (some (O.d (.str y))))[j]? = some (some (.d (.tup (sl part)))) := by
      rw [List.getElem?_set_ne (Ne.symm hij)]
      exact h2
    have h4 : inD (.str y) (.tup (sl part)) = some (.bl (decide (y ∈ part))) := by
      rw [in_plT (pl_str (ol y hy)) (sl_pl op)]
      congr 2
      exact decide_eq_decide.mpr sl_mem
    simp only [e_op, e_var, g1, g2, Rs.bind_ok, h4, e_ofO_some]
  rw [hw] at hlc
  simp only [e_cb, e_cons, e_nil, hlc, Rs.bind_ok]
  rw [v_all (fun h => decide (h ∈ part)) l]
  rfl
theorem l_falls_ok {hs : List Str} {fs : List (List Str)} {rs : List Str} {ps : List (Str × Str)} {l : List Str} {x : D} (ol : ∀ y ∈ l, okS y) (of : ∀ p ∈ fs, ∀ y ∈ p, okS y) (hl : l.length < 16777216) (hf : fs.length < 16777216) (hx : iterD x = some (sl l)) :
    m_l_falls [frameD hs fs rs ps, x] = .ok (.bl (falls fs l)) := by
  have hb : m_l_falls [frameD hs fs rs ps, x] = finP (b_l_falls [some (.d (frameD hs fs rs ps)), some (.d x), none, none]) := rfl
  rw [hb]
  unfold b_l_falls
  have h1 : (mIter (mOp getD (mVar 0) (mC (.int 1)))) [some (.d (frameD hs fs rs ps)), some (.d x), none, none] = .ok (fs.map fun p => .tup (sl p)) [some (.d (frameD hs fs rs ps)), some (.d x), none, none] := by
    simp [frameD, tl]
  have h2 := lc_map (i := 2) (fun p => D.tup (sl p)) fs (fun p => .bl (l.all fun h => decide (h ∈ p))) h1 hf (by simp) (elt := mCB allD (mCons (mLc (mIter (mVar 1)) (gV 3) mYes (mOp inD (mVar 3) (mVar 2)) [3]) mNil)) fun p hp => all_in ol (of p hp) hl hx rfl rfl rfl (by decide)
  simp only [e_ret, e_cb, e_cons, e_nil, h2, Rs.bind_ok]
  rw [v_any (fun p => l.all fun h => decide (h ∈ p)) fs]
  rfl
theorem fld_fails {hs : List Str} {fs : List (List Str)} {rs : List Str} {ps : List (Str × Str)} : fldD "Setting" "fails" (settingD hs fs rs ps) = some (.tup (tl fs)) := by kernel_rfl
theorem fld_houses {hs : List Str} {fs : List (List Str)} {rs : List Str} {ps : List (Str × Str)} : fldD "Setting" "houses" (settingD hs fs rs ps) = some (.tup (sl hs)) := by kernel_rfl
theorem fld_readers {hs : List Str} {fs : List (List Str)} {rs : List Str} {ps : List (Str × Str)} : fldD "Setting" "readers" (settingD hs fs rs ps) = some (.tup (sl rs)) := by kernel_rfl
theorem fld_promises {hs : List Str} {fs : List (List Str)} {rs : List Str} {ps : List (Str × Str)} : fldD "Setting" "promises" (settingD hs fs rs ps) = some (.tup (pl ps)) := by kernel_rfl
theorem may_fall_ok {hs : List Str} {fs : List (List Str)} {rs : List Str} {ps : List (Str × Str)} {l : List Str} {x : D} (ol : ∀ y ∈ l, okS y) (of : ∀ p ∈ fs, ∀ y ∈ p, okS y) (hl : l.length < 16777216) (hf : fs.length < 16777216) (hx : iterD x = some (sl l)) :
    m_may_fall [settingD hs fs rs ps, x] = .ok (.bl (falls fs l)) := by
  have hb : m_may_fall [settingD hs fs rs ps, x] = finP (b_may_fall [some (.d (settingD hs fs rs ps)), some (.d x), none, none]) := rfl
  rw [hb]
  unfold b_may_fall
  have h1 : (mIter (mFld "Setting" "fails" (mVar 0))) [some (.d (settingD hs fs rs ps)), some (.d x), none, none] = .ok (fs.map fun p => .tup (sl p)) [some (.d (settingD hs fs rs ps)), some (.d x), none, none] := by
    unfold mFld
    simp [fld_fails, tl]
  have h2 := lc_map (i := 2) (fun p => D.tup (sl p)) fs (fun p => .bl (l.all fun h => decide (h ∈ p))) h1 hf (by simp) (elt := mCB allD (mCons (mLc (mIter (mVar 1)) (gV 3) mYes (mOp inD (mVar 3) (mVar 2)) [3]) mNil)) fun p hp => all_in ol (of p hp) hl hx rfl rfl rfl (by decide)
  simp only [e_ret, e_cb, e_cons, e_nil, h2, Rs.bind_ok]
  rw [v_any (fun p => l.all fun h => decide (h ∈ p)) fs]
  rfl
def parts : List Str → List (List Str) → List (List Str)
  | [], acc => acc
  | h :: t, acc => parts t (acc ++ acc.map fun p => p ++ [h])
theorem parts_length : ∀ (hs : List Str) (acc : List (List Str)), (parts hs acc).length = acc.length * 2 ^ hs.length
  | [], acc => by simp [parts]
  | h :: t, acc => by
    rw [parts, parts_length t, List.length_append, List.length_map, List.length_cons, Nat.pow_succ, Nat.mul_comm (2 ^ t.length) 2, ← Nat.mul_assoc]
    congr 1
    omega
end Mi
namespace Mi
open PySem DD
end Mi
namespace Mi
open PySem DD
/-- how many views there are -/
def cv (hs : List Str) (fs : List (List Str)) (r : Nat) : Nat := (((parts hs [[]]).filter (falls fs)).map fun p => r ^ (hs.length - p.length)).sum
end Mi
namespace Mi
open PySem DD
theorem okS_plN {s : Str} (h : PyData.canLay0 (.str s) = true) : plN 60 (.str s) = true := pl_str (n := 60) h
/-- the law's def: all turns are right -/
theorem law_top {R : O → List D → RI} (hR : ∀ o, Jar o → ∃ o', R o [] = .ok (.bl true) o') (N : Nat) (hN : N ≤ 100) (ns : List Int) :
    mFun 2 1 (mRet (mCB allD (mCons (mLc (mRng (mCons (mCB max2D (mCons (mC (.int 2)) (mCons (mCB min2D (mCons (mCB lenD (mCons (mVar 0) mNil)) (mCons (mC (.int (N : Nat))) mNil))) mNil))) mNil)) (gV 1) mYes (mCallE R (mCallO m_l_jar (mCons (mVar 0) (mCons (mVar 1) mNil))) mNil) [1]) mNil))) [.scr ns] = .ok (.bl true) := by
  rw [mFun_at (ds := [D.scr ns]) (n := 1) rfl]
  generalize hk : max 2 (min ns.length N) = n
  have h1 : (mRng (mCons (mCB max2D (mCons (mC (.int 2)) (mCons (mCB min2D (mCons (mCB lenD (mCons (mVar 0) mNil)) (mCons (mC (.int (N : Nat))) mNil))) mNil))) mNil)) [some (.d (.scr ns)), none] = .ok ((List.range n).map fun k => .int (k : Nat)) [some (.d (.scr ns)), none] := by
    have hr := v_range1 (n := n) (by omega)
    have e1 : (if ((N : Nat) : Int) < (ns.length : Int) then ((N : Nat) : Int) else (ns.length : Int)) = ((min ns.length N : Nat) : Int) := by
      split <;> omega
    have e2 : (if (2 : Int) < ((min ns.length N : Nat) : Int) then ((min ns.length N : Nat) : Int) else (2 : Int)) = (n : Int) := by
      split <;> omega
    simp only [e_rng, e_cons, e_nil, e_cb, e_c, e_var, List.getElem?_cons_zero, Rs.bind_ok, v_lenC, e_ofO_some, v_min, v_max, gt_iff_lt, e1, e2, hr]
  have h2 := lc_map (i := 1) (it := mRng (mCons (mCB max2D (mCons (mC (.int 2)) (mCons (mCB min2D (mCons (mCB lenD (mCons (mVar 0) mNil)) (mCons (mC (.int (N : Nat))) mNil))) mNil))) mNil)) (elt := mCallE R (mCallO m_l_jar (mCons (mVar 0) (mCons (mVar 1) mNil))) mNil) (env := [some (.d (.scr ns)), none]) (fun k : Nat => D.int (k : Nat)) (List.range n) (fun _ => .bl ((fun _ : Nat => true) 0)) h1 (by rw [List.length_range]; omega) (by simp) (fun k _ => by
    obtain ⟨o, j1, j2⟩ := jar_ok ns k
    obtain ⟨o', r⟩ := hR o j2
    have a1 : (mCallO m_l_jar (mCons (mVar 0) (mCons (mVar 1) mNil))) [some (.d (.scr ns)), some (.d (.int (k : Nat)))] = .ok o [some (.d (.scr ns)), some (.d (.int (k : Nat)))] := by
      simp [mCallO, j1]
    show (mCallE R (mCallO m_l_jar (mCons (mVar 0) (mCons (mVar 1) mNil))) mNil) [some (.d (.scr ns)), some (.d (.int (k : Nat)))] = _
    unfold mCallE
    simp [a1, r])
  have h3 := v_all (fun _ : Nat => true) (List.range n)
  have st : startE 2 ([D.scr ns].map O.d) = [some (.d (.scr ns)), none] := rfl
  rw [st]
  simp only [e_ret, e_cb, e_cons, e_nil, h2, Rs.bind_ok, h3, e_ofO_some, Rs.on_ok]
  simp [finP]
/-- the setting of the program, in an environment -/
theorem built_at {hs : List Str} {fs : List (List Str)} {rs : List Str} {ps : List (Str × Str)} (F : Fr hs fs rs ps) {i : Nat} {env : DEnv} (h : env[i]? = some (some (.d (frameD hs fs rs ps)))) : (mCall m_l_built (mCons (mVar i) mNil)) env = .ok (settingD hs fs rs ps) env := by
  have := built_ok F
  simp only [e_mCall, e_cons, e_nil, e_var, h, Rs.bind_ok]
  rw [show m_l_built [frameD hs fs rs ps] = .ok (settingD hs fs rs ps) from this]
  rfl
theorem frame_fd {o : O} (h : Jar o) {a b : Nat} (ha : 1 ≤ a) (ha2 : a ≤ 8) (hb : 1 ≤ b) (hb2 : b ≤ 5) : ∃ (hs : List Str) (fs : List (List Str)) (rs : List Str) (ps : List (Str × Str)) (o' : O),
    m_l_frame o [.int (a : Nat), .int (b : Nat)] = .ok (frameD hs fs rs ps) o' ∧ Jar o' ∧ Fr hs fs rs ps ∧ (∀ x ∈ hs, x ∈ menu) ∧ (∀ x ∈ rs, x ∈ menu) ∧ hs.length ≤ a ∧ rs.length ≤ b := frame_ok h ha ha2 hb hb2
end Mi
namespace Mi
open PySem DD
end Mi
namespace Mi
open PySem DD
theorem in_strT {y : Str} {part : List Str} (oy : okS y) (op : ∀ x ∈ part, okS x) : inD (.str y) (.tup (sl part)) = some (.bl (decide (y ∈ part))) := by
  rw [in_plT (pl_str oy) (sl_pl op)]
  congr 2
  exact decide_eq_decide.mpr sl_mem
def insP (pp : List (List Str)) (x : List Str) : List (List Str) := if x ∈ pp then pp else pp ++ [x]
def joinP (hs p l : List Str) : List Str := hs.filter fun h => decide (h ∈ p) || decide (h ∈ l)
/-- no set twice, all of houses -/
structure Gd (hs : List Str) (pp : List (List Str)) : Prop where
  nd : pp.Nodup
  sub : ∀ x ∈ pp, x.Sublist hs
theorem pigeonG {α : Type} : ∀ {xs ys : List α}, xs.Nodup → (∀ x ∈ xs, x ∈ ys) → xs.length ≤ ys.length
  | [], _, _, _ => Nat.zero_le _
  | x :: xs, ys, nd, h => by
    classical
    obtain ⟨n1, n2⟩ := List.nodup_cons.mp nd
    have hx := h x List.mem_cons_self
    have ih := pigeonG (xs := xs) (ys := ys.erase x) n2 fun y hy => (List.mem_erase_of_ne (a := y) (b := x) fun e => n1 (by rw [← e]; exact hy)).mpr (h y (List.mem_cons_of_mem _ hy))
    rw [List.length_erase_of_mem hx] at ih
    have := List.length_pos_of_mem hx
    rw [List.length_cons]
    omega
theorem parts_all : ∀ {hs s : List Str}, s.Sublist hs → ∀ (acc : List (List Str)) (q : List Str), q ∈ acc → q ++ s ∈ parts hs acc
  | _, _, .slnil, acc, q, h => by rw [List.append_nil]; exact h
  | h :: t, s, .cons _ d, acc, q, hq => parts_all d _ q (List.mem_append_left _ hq)
  | h :: t, _ :: s, .cons₂ _ d, acc, q, hq => by
    have := parts_all d (acc ++ acc.map fun p => p ++ [h]) (q ++ [h]) (List.mem_append_right _ (List.mem_map.mpr ⟨q, hq, rfl⟩))
    rw [List.append_assoc] at this
    exact this
theorem Gd.length {hs : List Str} {pp : List (List Str)} (g : Gd hs pp) (h : hs.length ≤ 8) : pp.length ≤ 256 := by
  have h1 := pigeonG g.nd (ys := parts hs [[]]) fun x hx => parts_all (g.sub x hx) [[]] [] (by simp)
  rw [parts_length] at h1
  have : 2 ^ hs.length ≤ 2 ^ 8 := Nat.pow_le_pow_right (by omega) h
  have h8 : 2 ^ 8 = 256 := by decide
  simp at h1
  omega
theorem insP_mem {pp : List (List Str)} {x y : List Str} : y ∈ insP pp x ↔ y ∈ pp ∨ y = x := by
  unfold insP
  by_cases q : x ∈ pp
  · rw [if_pos q]
    exact ⟨.inl, fun h => h.elim id fun e => e ▸ q⟩
  · rw [if_neg q]
    simp
theorem Gd.ins {hs : List Str} {pp : List (List Str)} {x : List Str} (g : Gd hs pp) (h : x.Sublist hs) : Gd hs (insP pp x) := by
  refine ⟨?_, fun y hy => ?_⟩
  · unfold insP
    by_cases q : x ∈ pp
    · rw [if_pos q]; exact g.nd
    · rw [if_neg q]
      rw [List.nodup_append]
      exact ⟨g.nd, by simp, fun a ha b hb e => q (by rw [List.mem_singleton.mp hb] at e; exact e ▸ ha)⟩
  · rcases insP_mem.mp hy with hy | rfl
    · exact g.sub y hy
    · exact h
def growL (hs : List Str) (fs : List (List Str)) (p : List Str) (s : List (List Str)) : List (List Str) := fs.foldl (fun s l => insP s (joinP hs p l)) s
def growP (hs : List Str) (fs pp : List (List Str)) : List (List Str) := pp.foldl (fun s p => growL hs fs p s) pp
/-- what up to k lots have together -/
def PN (hs : List Str) (fs : List (List Str)) : Nat → List (List Str)
  | 0 => [[]]
  | k + 1 => growP hs fs (PN hs fs k)
def un (hs : List Str) (L : List (List Str)) : List Str := hs.filter fun h => L.any fun l => decide (h ∈ l)
/-- whether up to k lots have all houses -/
def tC (hs : List Str) (fs : List (List Str)) (k : Nat) : Bool := (PN hs fs k).any fun p => hs.all fun h => decide (h ∈ p)
end Mi
namespace DD
open PySem PySem.Spec PyProof.Rows L2
end DD
namespace Mi
open PySem DD
def tW (p : List Str) : D := .wtp (sl p)
end Mi
namespace Mi
open PySem DD
def bitsB (q : Str → Bool) : List Str → Nat
  | [] => 0
  | h :: t => (if q h = true then 1 else 0) + 2 * bitsB q t
/-- the number of what lots have together -/
def bL (hs : List Str) (L : List (List Str)) : Nat := bitsB (fun h => L.any fun l => decide (h ∈ l)) hs
end Mi
namespace Mi
open PySem DD
def iN (ns : List Nat) : List D := ns.map fun n => D.int (n : Nat)
section
variable {hs : List Str} {fs : List (List Str)} {rs : List Str} {ps : List (Str × Str)}
def bP (hs l : List Str) : Nat := bitsB (fun h => decide (h ∈ l)) hs
end
end Mi
namespace Mi
open PySem DD
def insN (s : List Nat) (x : Nat) : List Nat := if x ∈ s then s else s ++ [x]
theorem insN_mem {s : List Nat} {x y : Nat} : y ∈ insN s x ↔ y ∈ s ∨ y = x := by
  unfold insN
  by_cases q : x ∈ s
  · rw [if_pos q]
    exact ⟨.inl, fun h => h.elim id fun e => e ▸ q⟩
  · rw [if_neg q]
    simp
structure GdN (B : Nat) (s : List Nat) : Prop where
  nd : s.Nodup
  lt : ∀ x ∈ s, x < B
theorem GdN.ins {B : Nat} {s : List Nat} {x : Nat} (g : GdN B s) (h : x < B) : GdN B (insN s x) := by
  refine ⟨?_, fun y hy => ?_⟩
  · unfold insN
    by_cases q : x ∈ s
    · rw [if_pos q]; exact g.nd
    · rw [if_neg q, List.nodup_append]
      exact ⟨g.nd, by simp, fun a ha b hb e => q (by rw [List.mem_singleton.mp hb] at e; exact e ▸ ha)⟩
  · rcases insN_mem.mp hy with hy | rfl
    · exact g.lt y hy
    · exact h
theorem GdN.length {B : Nat} {s : List Nat} (g : GdN B s) : s.length ≤ B := by
  have := pigeonG g.nd (ys := List.range B) fun x hx => List.mem_range.mpr (g.lt x hx)
  rwa [List.length_range] at this
end Mi
namespace Mi
open PySem DD
end Mi
namespace Mi
open PySem DD
def chS (rs : List Str) (ps : List (Str × Str)) : List (List Str) := upTo (chN rs ps) rs.length
section
variable {hs : List Str} {fs : List (List Str)} {rs : List Str} {ps : List (Str × Str)}
theorem oks (F : Fr hs fs rs ps) : (∀ x ∈ hs, okS x) ∧ (∀ x ∈ rs, okS x) ∧ (∀ p ∈ ps, okS p.1 ∧ okS p.2) ∧ ∀ l ∈ fs, ∀ x ∈ l, okS x := by
  have oh : ∀ x ∈ hs, okS x := fun x hx => (F.nh x hx).2
  have or : ∀ x ∈ rs, okS x := fun x hx => (F.nr x hx).2
  exact ⟨oh, or, fun p hp => ⟨or _ (F.pm p hp).1, or _ (F.pm p hp).2.1⟩, fun l hl x hx => oh x ((F.sub l hl).subset hx)⟩
end
end Mi
namespace Mi
open PySem DD
abbrev Kn := List (Nat × List Nat)
def insK (s : Kn) (u : Nat) (ix : List Nat) : Kn := if u ∈ s.map (·.1) then s else s ++ [(u, ix)]
/-- what must hold of such a table -/
structure GdK (B : Nat) (s : Kn) : Prop where
  nd : (s.map (·.1)).Nodup
  lt : ∀ p ∈ s, p.1 < B
theorem GdK.length {B : Nat} {s : Kn} (g : GdK B s) : s.length ≤ B := by
  have h : GdN B (s.map (·.1)) := ⟨g.nd, fun x hx => by
    obtain ⟨p, h1, rfl⟩ := List.mem_map.mp hx
    exact g.lt p h1⟩
  have := h.length
  rwa [List.length_map] at this
theorem GdK.ins {B : Nat} {s : Kn} {u : Nat} {ix : List Nat} (g : GdK B s) (h : u < B) : GdK B (insK s u ix) := by
  unfold insK
  by_cases q : u ∈ s.map (·.1)
  · rw [if_pos q]; exact g
  · rw [if_neg q]
    refine ⟨?_, fun p hp => ?_⟩
    · rw [List.map_append, List.nodup_append]
      exact ⟨g.nd, by simp, fun a ha b hb e => q (by rw [show b = u from List.mem_singleton.mp hb] at e; exact e ▸ ha)⟩
    · rcases List.mem_append.mp hp with hp | hp
      · exact g.lt p hp
      · rw [List.mem_singleton.mp hp]; exact h
end Mi
namespace Mi
open PySem DD
end Mi
namespace Mi
open PySem DD
section
variable {hs : List Str} {fs : List (List Str)}
def lot (fs : List (List Str)) (i : Nat) : List Str := fs[i]?.getD []
end
end Mi
namespace Mi
open PySem DD
end Mi
namespace Mi
open PySem DD
end Mi
namespace Mi
open PySem DD
end Mi
namespace Mi
open PySem DD
theorem lcM_gen {α : Type} {tg : D → DEnv → Option DEnv} {tst : MB} {elt : MD} {vs : List Nat} {W : DEnv} (c : α → D) (E : α → DEnv) (p : α → Bool) (g : α → D) : ∀ xs : List α,
    (∀ x ∈ xs, tg (c x) W = some (E x) ∧ wipeE (E x) vs = W ∧ tst (E x) = .ok (p x) (E x) ∧ (p x = true → elt (E x) = .ok (g x) (E x))) → lcM tg tst elt vs (xs.map c) W = .ok ((xs.filter p).map g) W
  | [], _ => rfl
  | x :: xs, h => by
    obtain ⟨h1, h2, h3, h4⟩ := h x List.mem_cons_self
    have ih := lcM_gen (tg := tg) (tst := tst) (elt := elt) (vs := vs) c E p g xs fun y hy => h y (List.mem_cons_of_mem _ hy)
    rw [List.map_cons]
    unfold lcM
    simp only [h1, h3]
    cases hp : p x with
    | true => simp only [h4 hp, h2, ih, Rs.bind_ok, List.filter_cons, hp, if_true, List.map_cons]
    | false => simp only [h2, ih, List.filter_cons, hp, Bool.false_eq_true, if_false]
theorem lc_gen {α : Type} {it : MA} {tg : D → DEnv → Option DEnv} {tst : MB} {elt : MD} {vs : List Nat} {env W : DEnv} (c : α → D) (E : α → DEnv) (xs : List α) (p : α → Bool) (g : α → D) (hi : it env = .ok (xs.map c) env) (hl : xs.length < 16777216) (hv : (vs.all fun v => decide (v < env.length)) = true) (hW : wipeE env vs = W)
    (h : ∀ x ∈ xs, tg (c x) W = some (E x) ∧ wipeE (E x) vs = W ∧ tst (E x) = .ok (p x) (E x) ∧ (p x = true → elt (E x) = .ok (g x) (E x))) : mLc it tg tst elt vs env = .ok (.lst ((xs.filter p).map g)) W := by
  rw [e_lc, e_lcs, hi, Rs.bind_ok, size_e, if_pos ⟨by rw [List.length_map]; exact hl, hv⟩, hW, lcM_gen c E p g xs h]
  rfl
section
variable {hs : List Str} {fs : List (List Str)} {rs : List Str} {ps : List (Str × Str)}
def tS (p : List Str) : D := .tup (sl p)
variable {kd : List D}
abbrev Vw := List (Str × List Str)
def rowD (p : Str × List Str) : D := .tup [.str p.1, .tup (sl p.2)]
def vD (vw : Vw) : D := .tup (vw.map rowD)
structure VOk (vw : Vw) : Prop where
  len : vw.length ≤ 8
  row : ∀ p ∈ vw, okS p.1 ∧ p.2.Nodup ∧ p.2.length ≤ 10 ∧ ∀ x ∈ p.2, okS x
def needN (vw : Vw) (t : List Str) : List Str := (vw.filter fun p => !decide (t.Sublist p.2)).map (·.1)
def needH (vw : Vw) (x : Str) : List Str := (vw.filter fun p => decide (x ∈ p.2)).map (·.1)
end
end Mi
namespace Mi
open PySem DD
abbrev LL := List (List Str)
def covN (N : List Str) (L : LL) : Prop := ∀ h ∈ N, ∃ l ∈ L, h ∈ l
def stepS (fs : LL) (S : LL → Prop) : LL → Prop := fun L => ∃ L' l, L = L' ++ [l] ∧ S L' ∧ l ∈ fs
def onlyS (N : List Str) (S : LL → Prop) : LL → Prop := fun L => S L ∧ covN N L
def S0 : LL → Prop := fun L => L = []
section
variable {hs : List Str} {fs : List (List Str)} {rs : List Str} {ps : List (Str × Str)}
/-- what the program keeps -/
structure PK (hs : List Str) (fs : LL) (kn : Kn) (S : LL → Prop) (n : Nat) : Prop where
  gd : GdK (2 ^ hs.length) kn
  ix : ∀ p ∈ kn, p.2.length = n ∧ (∀ i ∈ p.2, i < fs.length) ∧ p.1 = bL hs (p.2.map (lot fs)) ∧ S (p.2.map (lot fs))
  all : ∀ L, S L → bL hs L ∈ kn.map (·.1)
/-- what the law keeps -/
structure LK (hs : List Str) (fs : LL) (kn : LL) (S : LL → Prop) : Prop where
  sub : ∀ p ∈ kn, p.Sublist hs
  len : kn.length ≤ 256
  mem : ∀ x, x ∈ kn ↔ ∃ L, S L ∧ x = un hs L
theorem LK.ne {kn : LL} {S : LL → Prop} (P : LK hs fs kn S) : kn ≠ [] ↔ ∃ L, S L := by
  constructor
  · intro h
    obtain ⟨x, hx⟩ := List.exists_mem_of_ne_nil _ h
    obtain ⟨L, h1, _⟩ := (P.mem x).mp hx
    exact ⟨L, h1⟩
  · rintro ⟨L, h1⟩ e
    have := (P.mem _).mpr ⟨L, h1, rfl⟩
    rw [e] at this
    cases this
theorem PK.ne {kn : Kn} {S : LL → Prop} {n : Nat} (P : PK hs fs kn S n) : kn ≠ [] ↔ ∃ L, S L := by
  constructor
  · intro h
    obtain ⟨x, hx⟩ := List.exists_mem_of_ne_nil _ h
    exact ⟨_, (P.ix x hx).2.2.2⟩
  · rintro ⟨L, h1⟩ e
    have := P.all L h1
    rw [e] at this
    cases this
def SNs (fs : LL) (Ns : List (List Str)) : LL → Prop := Ns.foldl (fun S N => onlyS N (stepS fs S)) S0
def SOs (fs : LL) (Ns : List (List Str)) : LL → Prop := Ns.foldl (fun S N => stepS fs (onlyS N S)) S0
variable (F : Fr hs fs rs ps)
include F
end
end Mi
namespace Mi
open PySem DD
section
variable {hs : List Str} {fs : List (List Str)} {rs : List Str} {ps : List (Str × Str)}
def newNs (vw : Vw) (folk : List Str) : List (List Str) := (List.range folk.length).map fun k => needN vw (folk.drop (folk.length - 1 - k))
theorem ow : okS "w" := by decide +kernel
variable (F : Fr hs fs rs ps) (hw : ("w" : Str) ∉ rs) {vw : Vw} (V : VOk vw) (hsub : (vw.map (·.1)).Sublist hs) {a : Str} (oa : okS a)
include F hw V hsub oa
end
end Mi
namespace Mi
open PySem DD
end Mi
namespace Mi
open PySem DD
section
variable {hs : List Str} {fs : List (List Str)} {rs : List Str} {ps : List (Str × Str)}
/-- what shows that a view must be new -/
def NewW (fs : LL) (rs : List Str) (ps : List (Str × Str)) (vw : Vw) (a : Str) (r : D) : Prop := ∃ c ∈ chS rs ps, c.getLast? = some a ∧ ∃ ix : List Nat, r = .tup [tS c.dropLast, .tup (iN ix.reverse)] ∧ SNs fs (newNs vw ("w" :: c.dropLast)) (ix.map (lot fs)) ∧ (∀ i ∈ ix, i < fs.length) ∧ ix.length = c.length
def OldW (fs : LL) (rs : List Str) (ps : List (Str × Str)) (vw : Vw) (a : Str) (r : D) : Prop := ∃ c ∈ chS rs ps, c.head? = some a ∧ ∃ ix : List Nat, r = .tup [tS (c.drop 1), .tup (iN ix)] ∧ onlyS (needH vw "w") (SOs fs ((c.drop 1).map (needH vw))) (ix.map (lot fs)) ∧ (∀ i ∈ ix, i < fs.length) ∧ ix.length = c.length - 1
variable (F : Fr hs fs rs ps)
include F
variable (hw : ("w" : Str) ∉ rs) {vw : Vw} (V : VOk vw) (hsub : (vw.map (·.1)).Sublist hs) {a : Str} (oa : okS a)
include hw V hsub oa
theorem NewW.some {r : D} (h : NewW fs rs ps vw a r) : isNonB r = false := by
  obtain ⟨c, _, _, ix, rfl, _⟩ := h
  rfl
theorem OldW.some {r : D} (h : OldW fs rs ps vw a r) : isNonB r = false := by
  obtain ⟨c, _, _, ix, rfl, _⟩ := h
  rfl
end
end Mi
namespace Mi
open PySem DD
section
variable {hs : List Str} {fs : List (List Str)} {rs : List Str} {ps : List (Str × Str)}
structure View (hs : List Str) (fs : LL) (rs : List Str) (a : Str) (vw : Vw) : Prop where
  sub : (vw.map (·.1)).Sublist hs
  fall : ∃ l ∈ fs, ∀ h ∈ hs, h ∉ vw.map (·.1) → h ∈ l
  row : ∀ p ∈ vw, p.2.Nodup ∧ ∀ x ∈ p.2, (x = "w" ∨ x ∈ rs) ∧ x ≠ a
theorem View.ok (F : Fr hs fs rs ps) {a : Str} {vw : Vw} (W : View hs fs rs a vw) : VOk vw := by
  obtain ⟨oh, or, op, of⟩ := oks F
  refine ⟨?_, fun p hp => ?_⟩
  · have := W.sub.length_le
    rw [List.length_map] at this
    have := F.hl
    omega
  · obtain ⟨h1, h2⟩ := W.row p hp
    have h3 : p.2.length ≤ ("w" :: rs : List Str).length := pigeon h1 fun x hx => by
      rcases (h2 x hx).1 with e | e
      · rw [e]; exact List.mem_cons_self
      · exact List.mem_cons_of_mem _ e
    rw [List.length_cons] at h3
    have := F.rl
    refine ⟨oh _ (W.sub.subset (List.mem_map.mpr ⟨p, hp, rfl⟩)), h1, by omega, fun x hx => ?_⟩
    rcases (h2 x hx).1 with e | e
    · rw [e]; exact ow
    · exact or x e
theorem clients_of_ok (F : Fr hs fs rs ps) : m_clients_of [settingD hs fs rs ps] = .ok (.tup (sl ("w" :: rs))) := by
  have hb : m_clients_of [settingD hs fs rs ps] = finP (b_clients_of [some (.d (settingD hs fs rs ps))]) := rfl
  rw [hb]
  unfold b_clients_of mFld
  have rl := F.rl
  have l1 : (sl rs).length = rs.length := List.length_map ..
  have hz : (sl rs).length + 1 ≤ 16777216 := by omega
  simp [fld_readers, size_e, hz, finP]
  rfl
variable (F : Fr hs fs rs ps) {a : Str} (ha : a ∈ rs) {vw : Vw} (W : View hs fs rs a vw)
include F ha W
end
end Mi
namespace Mi
open PySem DD
theorem callI {f : O → List D → RI} {m : MA} {env e : DEnv} {ds : List D} {u o o' : O} {d : D} {i : Nat} (h0 : env[i]? = some (some u)) (hm : m env = .ok ds e) (h1 : e[i]? = some (some o)) (hf : f o ds = .ok d o') : mCallI i f m env = .ok d (e.set i (some o')) := by
  unfold mCallI
  simp only [h0, hm, Rs.bind_ok, h1, hf]
theorem dip_at {o : O} (j : Jar o) {env : DEnv} (h0 : env[0]? = some (some o)) {mt : MD} {top : Int} (hm : mt env = .ok (.int top) env) (ht : 0 < top) (ht2 : top < 1073741824) : ∃ (r : Nat) (o' : O), Jar o' ∧ (r : Int) < top ∧ (mCallI 0 m_l_dip (mCons mt mNil)) env = .ok (.int (r : Nat)) (env.set 0 (some o')) := by
  obtain ⟨r, o', h1, h2, h3⟩ := dip_ok j ht ht2
  exact ⟨r, o', h2, h3, callI (ds := [.int top]) (e := env) h0 (by simp only [e_cons, hm, Rs.bind_ok, e_nil]) h0 h1⟩
theorem one_at {o : O} (j : Jar o) {env : DEnv} (h0 : env[0]? = some (some o)) {mt : MD} {xs : List D} (hm : mt env = .ok (.lst xs) env) (h1 : 0 < xs.length) (h2 : xs.length < 1073741824) : ∃ (x : D) (o' : O), x ∈ xs ∧ Jar o' ∧ (mCallI 0 m_l_one_of (mCons mt mNil)) env = .ok x (env.set 0 (some o')) := by
  obtain ⟨i, hi, o', e, j'⟩ := one_of_ok j h1 h2
  exact ⟨xs[i], o', List.getElem_mem hi, j', callI (ds := [.lst xs]) (e := env) h0 (by simp only [e_cons, hm, Rs.bind_ok, e_nil]) h0 e⟩
inductive Sel {α β : Type} (P : α → Bool → Prop) (Q : α → β → Prop) : List α → List β → Prop
  | nil : Sel P Q [] []
  | skip {x : α} {xs : List α} {ys : List β} : P x false → Sel P Q xs ys → Sel P Q (x :: xs) ys
  | take {x : α} {y : β} {xs : List α} {ys : List β} : P x true → Q x y → Sel P Q xs ys → Sel P Q (x :: xs) (y :: ys)
theorem Sel.same {α : Type} {P : α → Bool → Prop} : ∀ {xs ys : List α}, Sel P (fun x y => y = x) xs ys → ys.Sublist xs
  | _, _, .nil => List.Sublist.slnil
  | _, _, .skip _ h => List.Sublist.cons _ h.same
  | _, _, .take _ e h => by
    subst e
    exact List.Sublist.cons₂ _ h.same
theorem lcM_eff {α β : Type} {tg : D → DEnv → Option DEnv} {tst : MB} {elt : MD} {vs : List Nat} (c : α → D) (d : β → D) (E : O → DEnv) (E1 : O → α → DEnv) (P : α → Bool → Prop) (Q : α → β → Prop) : ∀ xs : List α,
    (∀ x ∈ xs, ∀ o, Jar o → tg (c x) (E o) = some (E1 o x) ∧ wipeE (E1 o x) vs = E o ∧ ∃ b o1, Jar o1 ∧ P x b ∧ tst (E1 o x) = .ok b (E1 o1 x) ∧ (b = true → ∃ y o2, Jar o2 ∧ elt (E1 o1 x) = .ok (d y) (E1 o2 x) ∧ Q x y)) →
    ∀ o, Jar o → ∃ ys o', lcM tg tst elt vs (xs.map c) (E o) = .ok (ys.map d) (E o') ∧ Jar o' ∧ Sel P Q xs ys
  | [], _, o, j => ⟨[], o, rfl, j, .nil⟩
  | x :: xs, h, o, j => by
    have ih := lcM_eff (tg := tg) (tst := tst) (elt := elt) (vs := vs) c d E E1 P Q xs fun y hy => h y (List.mem_cons_of_mem _ hy)
    obtain ⟨h1, _, b, o1, j1, p, h3, h4⟩ := h x List.mem_cons_self o j
    cases b with
    | true =>
      obtain ⟨y, o2, j2, h5, q⟩ := h4 rfl
      have w := (h x List.mem_cons_self o2 j2).2.1
      obtain ⟨ys, o', k1, k2, k3⟩ := ih o2 j2
      refine ⟨y :: ys, o', ?_, k2, .take p q k3⟩
      rw [List.map_cons]
      unfold lcM
      simp only [h1, h3, h5, w, k1, Rs.bind_ok, List.map_cons]
    | false =>
      have w := (h x List.mem_cons_self o1 j1).2.1
      obtain ⟨ys, o', k1, k2, k3⟩ := ih o1 j1
      refine ⟨ys, o', ?_, k2, .skip p k3⟩
      rw [List.map_cons]
      unfold lcM
      simp only [h1, h3, w, k1]
theorem lc_eff {α β : Type} {it : MA} {tg : D → DEnv → Option DEnv} {tst : MB} {elt : MD} {vs : List Nat} {env : DEnv} (c : α → D) (d : β → D) (E : O → DEnv) (E1 : O → α → DEnv) (P : α → Bool → Prop) (Q : α → β → Prop) (xs : List α) {o : O} (j : Jar o) (hi : it env = .ok (xs.map c) env) (hl : xs.length < 16777216) (hv : (vs.all fun v => decide (v < env.length)) = true) (hW : wipeE env vs = E o)
    (h : ∀ x ∈ xs, ∀ o, Jar o → tg (c x) (E o) = some (E1 o x) ∧ wipeE (E1 o x) vs = E o ∧ ∃ b o1, Jar o1 ∧ P x b ∧ tst (E1 o x) = .ok b (E1 o1 x) ∧ (b = true → ∃ y o2, Jar o2 ∧ elt (E1 o1 x) = .ok (d y) (E1 o2 x) ∧ Q x y)) :
    ∃ ys o', mLc it tg tst elt vs env = .ok (.lst (ys.map d)) (E o') ∧ Jar o' ∧ Sel P Q xs ys := by
  obtain ⟨ys, o', k1, k2, k3⟩ := lcM_eff c d E E1 P Q xs h o j
  refine ⟨ys, o', ?_, k2, k3⟩
  rw [e_lc, e_lcs, hi, Rs.bind_ok, size_e, if_pos ⟨by rw [List.length_map]; exact hl, hv⟩, hW, k1]
  rfl
end Mi
namespace Mi
open PySem DD
end Mi
namespace Mi
open PySem DD
end Mi
namespace Mi
open PySem DD
def FrD (a b : Nat) (d : D) : Prop := ∃ (hs : List Str) (fs : LL) (rs : List Str) (ps : List (Str × Str)), d = frameD hs fs rs ps ∧ Fr hs fs rs ps ∧ (∀ x ∈ hs, x ∈ menu) ∧ (∀ x ∈ rs, x ∈ menu) ∧ hs.length ≤ a ∧ rs.length ≤ b
theorem frame_at {o : O} (j : Jar o) {a b : Nat} (ha : 1 ≤ a) (ha2 : a ≤ 8) (hb : 1 ≤ b) (hb2 : b ≤ 5) : ∃ (d : D) (o' : O), m_l_frame o [.int (a : Nat), .int (b : Nat)] = .ok d o' ∧ Jar o' ∧ FrD a b d := by
  obtain ⟨hs, fs, rs, ps, o', h1, h2, h3, h4, h5, h6, h7⟩ := frame_fd j ha ha2 hb hb2
  exact ⟨_, o', h1, h2, hs, fs, rs, ps, rfl, h3, h4, h5, h6, h7⟩
end Mi
namespace Mi
open PySem DD
end Mi
namespace Mi
open PySem DD
section
variable {hs : List Str} {fs : LL} {rs : List Str} {ps : List (Str × Str)}
def eL (hs : List Str) (fs : LL) (rs : List Str) (ps : List (Str × Str)) (a b : Str) (vw : Vw) (o : O) (v5 v6 v7 v8 v9 v10 v11 : Option O) : DEnv := [some o, some (.d (frameD hs fs rs ps)), some (.d (.str a)), some (.d (.str b)), some (.d (vD vw)), v5, v6, v7, v8, v9, v10, v11, none]
variable (F : Fr hs fs rs ps) (hw : ("w" : Str) ∉ rs) {a b : Str} (ha : a ∈ rs) (hb : b ∈ rs) (hab : a ≠ b) {vw : Vw} (W : View hs fs rs a vw) (nb : ∀ q ∈ vw, b ∉ q.2)
include F hw ha hb hab W nb
end
end Mi
set_option maxHeartbeats 4000000
namespace Mi
open PySem DD
def layW (hs : List Str) (fs : LL) (k : Nat) : List D := (List.range (k + 1)).map fun j => D.lst ((PN hs fs j).map tW)
def eH (hs : List Str) (fs : LL) (rs : List Str) (ps : List (Str × Str)) (k : Nat) (w2 w3 w4 w5 : Option O) : DEnv := [some (.d (frameD hs fs rs ps)), some (oL (layW hs fs k)), w2, w3, w4, w5, none]
end Mi
namespace Mi
open PySem DD
end Mi
namespace Mi
open PySem DD
end Mi
namespace Mi
open PySem DD
end Mi
namespace Mi
open PySem DD
end Mi
namespace Mi
open PySem DD
end Mi
namespace Mi
open PySem DD
end Mi
namespace Mi
open PySem DD
section
variable {α : Type}
def getA : List (Str × α) → Str → Option α
  | [], _ => none
  | p :: r, k => if p.1 = k then some p.2 else getA r k
def rplA : List (Str × α) → Str → α → List (Str × α)
  | [], _, _ => []
  | p :: r, k, x => (p.1, if p.1 = k then x else p.2) :: rplA r k x
def putA (l : List (Str × α)) (k : Str) (x : α) : List (Str × α) := if k ∈ l.map (·.1) then rplA l k x else l ++ [(k, x)]
def keyS (l : List (Str × α)) : List (Int ⊕ Str) := l.map fun p => .inr p.1
theorem inr_eq {a b : Str} : (Sum.inr a : Int ⊕ Str) = Sum.inr b ↔ a = b := ⟨fun h => Sum.inr.inj h, fun h => by rw [h]⟩
theorem mem_keyS {l : List (Str × α)} {k : Str} : (Sum.inr k : Int ⊕ Str) ∈ keyS l ↔ k ∈ l.map (·.1) := by
  unfold keyS
  rw [List.mem_map, List.mem_map]
  constructor
  · rintro ⟨p, hp, e⟩
    exact ⟨p, hp, inr_eq.mp e⟩
  · rintro ⟨p, hp, e⟩
    exact ⟨p, hp, inr_eq.mpr e⟩
theorem getX_keyS {β : Type} (g : α → β) (k : Str) : ∀ l : List (Str × α), getX (keyS l) (l.map fun p => g p.2) (.inr k) = (getA l k).map g
  | [] => rfl
  | p :: r => by
    show getX (.inr p.1 :: keyS r) (g p.2 :: r.map fun p => g p.2) (.inr k) = _
    rw [getX, getA]
    by_cases e : p.1 = k
    · rw [if_pos (inr_eq.mpr e), if_pos e]; rfl
    · rw [if_neg fun z => e (inr_eq.mp z), if_neg e]
      exact getX_keyS g k r
theorem rplA_keys (k : Str) (x : α) : ∀ l : List (Str × α), (rplA l k x).map (·.1) = l.map (·.1)
  | [] => rfl
  | p :: r => by rw [rplA, List.map_cons, List.map_cons, rplA_keys k x r]
theorem getA_rpl {k k' : Str} {x : α} : ∀ {l : List (Str × α)}, k ∈ l.map (·.1) → getA (rplA l k x) k' = if k' = k then some x else getA l k'
  | [], h => by cases h
  | p :: r, h => by
    rw [rplA, getA, getA]
    by_cases e : p.1 = k
    · by_cases e2 : k' = k
      · rw [if_pos (by rw [e, e2]), if_pos e2, if_pos e]
      · have e3 : ¬ p.1 = k' := fun z => e2 (by rw [← z, e])
        rw [if_neg e3, if_neg e3, if_neg e2]
        by_cases m : k ∈ r.map (·.1)
        · rw [getA_rpl m, if_neg e2]
        · have : ∀ l : List (Str × α), k ∉ l.map (·.1) → rplA l k x = l := by
            intro l
            induction l with
            | nil => intro _; rfl
            | cons q t ih =>
              intro hq
              rw [List.map_cons, List.mem_cons, not_or] at hq
              rw [rplA, if_neg (fun z => hq.1 z.symm), ih hq.2]
          rw [this r m]
    · have m : k ∈ r.map (·.1) := by
        rw [List.map_cons, List.mem_cons] at h
        rcases h with h | h
        · exact absurd h.symm e
        · exact h
      have ih := getA_rpl (k' := k') (x := x) m
      rw [if_neg e]
      show (if p.1 = k' then some p.2 else getA (rplA r k x) k') = _
      rw [ih]
      by_cases e2 : k' = k
      · rw [if_pos e2, if_pos e2, if_neg (by rw [e2]; exact e)]
      · rw [if_neg e2, if_neg e2]
theorem getA_app {k k' : Str} {x : α} : ∀ {l : List (Str × α)}, k ∉ l.map (·.1) → getA (l ++ [(k, x)]) k' = if k' = k then some x else getA l k'
  | [], _ => by
    show (if k = k' then some x else none) = _
    by_cases e : k' = k
    · rw [if_pos e, if_pos e.symm]
    · rw [if_neg e, if_neg fun z => e z.symm]; rfl
  | p :: r, h => by
    rw [List.map_cons, List.mem_cons, not_or] at h
    rw [List.cons_append, getA, getA, getA_app h.2]
    by_cases e : p.1 = k'
    · rw [if_pos e, if_pos e, if_neg (fun z => h.1 (by rw [e, z]))]
    · rw [if_neg e, if_neg e]
theorem getA_put {k k' : Str} {x : α} {l : List (Str × α)} : getA (putA l k x) k' = if k' = k then some x else getA l k' := by
  unfold putA
  by_cases m : k ∈ l.map (·.1)
  · rw [if_pos m, getA_rpl m]
  · rw [if_neg m, getA_app m]
theorem getA_mem {k : Str} : ∀ {l : List (Str × α)}, k ∈ l.map (·.1) ↔ ∃ x, getA l k = some x
  | [] => ⟨(fun h => by cases h), (fun ⟨_, h⟩ => by cases h)⟩
  | p :: r => by
    rw [List.map_cons, List.mem_cons, getA]
    by_cases e : p.1 = k
    · rw [if_pos e]
      exact ⟨fun _ => ⟨_, rfl⟩, fun _ => .inl e.symm⟩
    · rw [if_neg e, ← getA_mem]
      exact ⟨fun h => h.elim (fun z => absurd z.symm e) id, .inr⟩
theorem putA_keys {k : Str} {x : α} {l : List (Str × α)} : ∀ y, y ∈ (putA l k x).map (·.1) ↔ y ∈ l.map (·.1) ∨ y = k := fun y => by
  unfold putA
  by_cases m : k ∈ l.map (·.1)
  · rw [if_pos m, rplA_keys]
    exact ⟨.inl, fun h => h.elim id fun z => z ▸ m⟩
  · rw [if_neg m, List.map_append, List.mem_append]
    simp
theorem putA_old {k : Str} {x : α} {l : List (Str × α)} (m : k ∈ l.map (·.1)) : putA l k x = rplA l k x := if_pos m
theorem putA_new {k : Str} {x : α} {l : List (Str × α)} (m : k ∉ l.map (·.1)) : putA l k x = l ++ [(k, x)] := if_neg m
end
structure RSt where
  rows : List (Str × List Str)
  ans : List (Str × List (Str × List Str))
  beg : List (Str × Int)
  fin : List (Str × Int)
  many : Int
def dD {α : Type} (g : α → D) (l : List (Str × α)) : D := .dct (keyS l) (l.map fun p => g p.2)
def stN : List Str := ["frame", "rows", "answers", "begun", "ended", "many"]
def stD (d : D) (s : RSt) : D := .ins "State" stN [d, dD tS s.rows, dD (dD tS) s.ans, dD .int s.beg, dD .int s.fin, .int s.many]
end Mi
namespace Mi
open PySem DD
inductive Ev where
  | beg (c : Str)
  | rea (c h : Str)
  | fin (c : Str)
def evD : Ev → D
  | .beg c => .tup [.str "begin", .str c]
  | .rea c h => .tup [.str "reach", .str c, .str h]
  | .fin c => .tup [.str "end", .str c]
def EvOk (hs cl : List Str) : Ev → Prop
  | .beg c => c ∈ cl
  | .rea c h => c ∈ cl ∧ h ∈ hs
  | .fin c => c ∈ cl
def rowOf (s : RSt) (h : Str) : List Str := (getA s.rows h).getD []
def ansOf (s : RSt) (c : Str) : List (Str × List Str) := (getA s.ans c).getD []
def begB (s : RSt) (c : Str) : Bool := decide (c ∈ s.beg.map (·.1))
def finB (s : RSt) (c : Str) : Bool := decide (c ∈ s.fin.map (·.1))
def hrdB (s : RSt) (c h : Str) : Bool := decide (h ∈ (ansOf s c).map (·.1))
def letsB (hs : List Str) (fs : LL) (s : RSt) : Ev → Bool
  | .beg c => !begB s c
  | .rea c h => begB s c && !decide (c ∈ rowOf s h)
  | .fin c => begB s c && (!finB s c && falls fs (hs.filter fun h => !hrdB s c h))
def takeS (s : RSt) : Ev → RSt
  | .beg c => { s with beg := putA s.beg c s.many, many := s.many + 1 }
  | .fin c => { s with fin := putA s.fin c s.many, many := s.many + 1 }
  | .rea c h => { s with ans := if finB s c = true then s.ans else rplA s.ans c (putA (ansOf s c) h (rowOf s h)), rows := rplA s.rows h (rowOf s h ++ [c]), many := s.many + 1 }
structure SOk (hs cl : List Str) (s : RSt) : Prop where
  rk : s.rows.map (·.1) = hs
  ak : s.ans.map (·.1) = cl
  cn : cl.Nodup
  rn : ∀ h, (rowOf s h).Nodup ∧ ∀ x ∈ rowOf s h, x ∈ cl
  an : ∀ c, ((ansOf s c).map (·.1)).Nodup ∧ ∀ h ∈ (ansOf s c).map (·.1), h ∈ hs
  bk : (s.beg.map (·.1)).Nodup ∧ ∀ c ∈ s.beg.map (·.1), c ∈ cl
  fk : (s.fin.map (·.1)).Nodup ∧ ∀ c ∈ s.fin.map (·.1), c ∈ cl
section
variable {hs : List Str} {fs : LL} {rs : List Str} {ps : List (Str × Str)} {cl : List Str} {s : RSt}
theorem ans_at (S : SOk hs cl s) {c : Str} (hc : c ∈ cl) : getA s.ans c = some (ansOf s c) := by
  obtain ⟨r, hr⟩ := getA_mem.mp (show c ∈ s.ans.map (·.1) by rw [S.ak]; exact hc)
  unfold ansOf
  rw [hr]
  rfl
variable {d : D} {E : DEnv}
variable (F : Fr hs fs rs ps) (S : SOk hs cl s) (ocl : ∀ x ∈ cl, okS x)
include F S ocl
end
end Mi
namespace Mi
open PySem DD
theorem takeS_rea {s : RSt} {c h : Str} : takeS s (.rea c h) = { s with ans := if finB s c = true then s.ans else rplA s.ans c (putA (ansOf s c) h (rowOf s h)), rows := rplA s.rows h (rowOf s h ++ [c]), many := s.many + 1 } := rfl
end Mi
namespace Mi
open PySem DD
section
variable {hs : List Str} {fs : LL} {rs : List Str} {ps : List (Str × Str)} {cl : List Str} {s : RSt}
theorem rpl_row {h : Str} {l : List (Str × List Str)} (hh : h ∈ l.map (·.1)) (x : List Str) (g : Str) : (getA (rplA l h x) g).getD [] = if g = h then x else (getA l g).getD [] := by
  rw [getA_rpl hh]
  by_cases e : g = h
  · rw [if_pos e, if_pos e]; rfl
  · rw [if_neg e, if_neg e]
theorem rowOf_rea (S : SOk hs cl s) {c h : Str} (hh : h ∈ hs) (g : Str) : rowOf (takeS s (.rea c h)) g = if g = h then rowOf s h ++ [c] else rowOf s g := rpl_row (by rw [S.rk]; exact hh) _ g
theorem ansOf_rea (S : SOk hs cl s) {c h : Str} (hc : c ∈ cl) (x : Str) : ansOf (takeS s (.rea c h)) x = if finB s c = false ∧ x = c then putA (ansOf s c) h (rowOf s h) else ansOf s x := by
  show (getA (takeS s (.rea c h)).ans x).getD [] = _
  rw [takeS_rea]
  dsimp only
  cases hf : finB s c with
  | true =>
    rw [if_pos rfl, if_neg (by simp)]
    rfl
  | false =>
    rw [if_neg Bool.false_ne_true, getA_rpl (by rw [S.ak]; exact hc)]
    by_cases e : x = c
    · rw [if_pos e, if_pos ⟨rfl, e⟩]; rfl
    · rw [if_neg e, if_neg fun z => e z.2]; rfl
theorem begB_beg {c : Str} (x : Str) : begB (takeS s (.beg c)) x = (begB s x || decide (x = c)) := by
  show decide (x ∈ (putA s.beg c s.many).map (·.1)) = _
  unfold begB
  rw [← Bool.decide_or]
  exact decide_eq_decide.mpr (putA_keys x)
theorem finB_fin {c : Str} (x : Str) : finB (takeS s (.fin c)) x = (finB s x || decide (x = c)) := by
  show decide (x ∈ (putA s.fin c s.many).map (·.1)) = _
  unfold finB
  rw [← Bool.decide_or]
  exact decide_eq_decide.mpr (putA_keys x)
theorem putA_nd {α : Type} {l : List (Str × α)} {k : Str} {x : α} (h : (l.map (·.1)).Nodup) : ((putA l k x).map (·.1)).Nodup := by
  by_cases m : k ∈ l.map (·.1)
  · rw [putA_old m, rplA_keys]
    exact h
  · rw [putA_new m, List.map_append]
    refine List.nodup_append.mpr ⟨h, by simp, fun a ha b hb e => ?_⟩
    have : b = k := by simpa using hb
    exact m (this ▸ e ▸ ha)
theorem take_sok (S : SOk hs cl s) {e : Ev} (he : EvOk hs cl e) (hl : letsB hs fs s e = true) : SOk hs cl (takeS s e) := by
  cases e with
  | beg c =>
    refine ⟨S.rk, S.ak, S.cn, S.rn, S.an, ⟨putA_nd S.bk.1, fun x hx => ?_⟩, S.fk⟩
    rcases (putA_keys x).mp hx with z | z
    · exact S.bk.2 x z
    · exact z ▸ he
  | fin c =>
    refine ⟨S.rk, S.ak, S.cn, S.rn, S.an, S.bk, ⟨putA_nd S.fk.1, fun x hx => ?_⟩⟩
    rcases (putA_keys x).mp hx with z | z
    · exact S.fk.2 x z
    · exact z ▸ he
  | rea c h =>
    obtain ⟨hc, hh⟩ := he
    have hl2 : (begB s c && !decide (c ∈ rowOf s h)) = true := hl
    rw [Bool.and_eq_true, Bool.not_eq_true', decide_eq_false_iff_not] at hl2
    refine ⟨?_, ?_, S.cn, fun g => ?_, fun x => ?_, S.bk, S.fk⟩
    · rw [takeS_rea]
      show (rplA _ _ _).map _ = _
      rw [rplA_keys]
      exact S.rk
    · rw [takeS_rea]
      show (if finB s c = true then s.ans else rplA _ _ _).map _ = _
      split
      · exact S.ak
      · rw [rplA_keys]; exact S.ak
    · rw [rowOf_rea S hh]
      by_cases e : g = h
      · rw [if_pos e]
        refine ⟨List.nodup_append.mpr ⟨(S.rn h).1, by simp, fun a ha b hb e => ?_⟩, fun x hx => ?_⟩
        · have : b = c := by simpa using hb
          exact hl2.2 (this ▸ e ▸ ha)
        · rcases List.mem_append.mp hx with z | z
          · exact (S.rn h).2 x z
          · rw [List.mem_singleton.mp z]; exact hc
      · rw [if_neg e]
        exact S.rn g
    · rw [ansOf_rea S hc]
      by_cases e : finB s c = false ∧ x = c
      · rw [if_pos e]
        refine ⟨putA_nd (S.an c).1, fun g hg => ?_⟩
        rcases (putA_keys g).mp hg with z | z
        · exact (S.an c).2 g z
        · exact z ▸ hh
      · rw [if_neg e]
        exact S.an x
def s0 (hs cl : List Str) : RSt := ⟨hs.map fun h => (h, []), cl.map fun c => (c, []), [], [], 0⟩
end
end Mi
namespace Mi
open PySem DD
section
variable {hs : List Str} {fs : LL} {rs : List Str} {ps : List (Str × Str)} {s : RSt}
variable (F : Fr hs fs rs ps) (hw : ("w" : Str) ∉ rs)
include F hw
theorem cl_oks : ∀ x ∈ ("w" :: rs : List Str), okS x := by
  obtain ⟨oh, or, op, of⟩ := oks F
  intro x hx
  rcases List.mem_cons.mp hx with rfl | hx
  · exact (by decide +kernel : okS ("w" : Str))
  · exact or x hx
end
end Mi
namespace Mi
open PySem DD
end Mi
namespace Mi
open PySem DD
section
variable {hs : List Str} {fs : LL} {cl : List Str} {s : RSt} {c : Str}
def blk (c : Str) (gs : List Str) (e : Bool) : List Ev := .beg c :: (gs.map (Ev.rea c) ++ if e = true then [.fin c] else [])
end
end Mi
namespace Mi
open PySem DD
def runE (hs : List Str) (fs : LL) : RSt → List Ev → Option RSt
  | s, [] => some s
  | s, e :: r => if letsB hs fs s e = true then runE hs fs (takeS s e) r else none
section
variable {hs : List Str} {fs : LL} {rs : List Str} {ps : List (Str × Str)} {s : RSt}
theorem getF_dD {α : Type} (g : α → D) (l : List (Str × α)) (k : Str) : getF (dD g l) (.str k) = (getA l k).map g := by
  show ((keyD (.str k)).bind fun kk => getX (keyS l) (l.map fun p => g p.2) kk) = _
  exact getX_keyS g k l
theorem inF_dD {α : Type} (g : α → D) (l : List (Str × α)) (k : Str) : inF (dD g l) (.str k) = some (decide (k ∈ l.map (·.1))) := by
  show some (inX (keyS l) (.inr k)) = _
  congr 1
  unfold inX
  exact decide_eq_decide.mpr mem_keyS
theorem sf_ans {d : D} : fldD "State" "answers" (stD d s) = some (dD (dD tS) s.ans) := by kernel_rfl
/-- a run whose state is s -/
def runS (hs : List Str) (fs : LL) (rs : List Str) (ps : List (Str × Str)) (evs : List Ev) (s : RSt) : D := .ins "Run" ["place", "events", "state"] [settingD hs fs rs ps, .tup (evs.map evD), stD (settingD hs fs rs ps) s]
theorem rf_state {evs : List Ev} : fldD "Run" "state" (runS hs fs rs ps evs s) = some (stD (settingD hs fs rs ps) s) := by kernel_rfl
theorem run_place {evs : List Ev} : m_Run_setting [runS hs fs rs ps evs s] = .ok (settingD hs fs rs ps) := by kernel_rfl
theorem prop_at {E : DEnv} {C : Str} {ns : List Str} {ds : List D} {f : List D → RP} {md : MD} {d : D} (w : md E = .ok (.ins C ns ds) E) (hf : f [.ins C ns ds] = .ok d) : (mProp C f md) E = .ok d E := by
  unfold mProp
  rw [w, Rs.bind_ok]
  show (if C = C then _ else _) = _
  rw [if_pos rfl]
  show (match f [.ins C ns ds] with
    | .ok r => Rs.ok r E
    | _ => .fail) = _
  rw [hf]
theorem meth_atN {E e2 : DEnv} {C m : Str} {ns : List Str} {ds es : List D} {f : List D → RP} {a : MD} {ms : MA} {r : D} (hmn : m ∉ ns) (ha : a E = .ok (.ins C ns ds) E) (hm : ms E = .ok es e2) (hf : f (.ins C ns ds :: es) = .ok r) : mMeth C m f a ms E = .ok r e2 := by
  unfold mMeth
  rw [ha, Rs.bind_ok]
  show (if C = C ∧ m ∉ ns then _ else _) = _
  rw [if_pos ⟨rfl, hmn⟩, hm, Rs.bind_ok]
  show (match f (.ins C ns ds :: es) with
    | .ok r => Rs.ok r e2
    | .exc x => .exc x e2
    | _ => .fail) = _
  rw [hf]
variable (F : Fr hs fs rs ps) (hw : ("w" : Str) ∉ rs)
include F hw
theorem check_client_ok {c : Str} (hc : c ∈ ("w" :: rs : List Str)) : m_check_client [settingD hs fs rs ps, .str c] = .ok .non := by
  have hb : m_check_client [settingD hs fs rs ps, .str c] = finP (b_check_client [some (.d (settingD hs fs rs ps)), some (.d (.str c))]) := rfl
  rw [hb]
  unfold b_check_client
  have one := one_of_eq (cl_oks F hw _ hc) (cl_oks F hw)
  rw [decide_eq_true hc] at one
  have cle := clients_of_ok F
  generalize hE : ([some (.d (settingD hs fs rs ps)), some (.d (.str c))] : DEnv) = E
  have w0 : (mVar 0) E = .ok (settingD hs fs rs ps) E := by rw [← hE]; rfl
  have w1 : (mVar 1) E = .ok (.str c) E := by rw [← hE]; rfl
  have am : (mCons (mVar 1) (mCons (mCall m_clients_of (mCons (mVar 0) mNil)) mNil)) E = .ok [.str c, .tup (sl ("w" :: rs))] E := by
    simp only [e_cons, w1, Rs.bind_ok, e_mCall, w0, e_nil, cle, asP_ok]
  rw [e_ifS, e_not, e_test, e_mCall, am, Rs.bind_ok, one, asP_ok, Rs.bind_ok, e_asB, Rs.bind_ok, Rs.on_ok, Bool.not_true, if_neg Bool.false_ne_true, e_skip]
  rfl
theorem client_at {evs : List Ev} {c : Str} (hc : c ∈ ("w" :: rs : List Str)) {E : DEnv} (w0 : (mVar 0) E = .ok (runS hs fs rs ps evs s) E) (w1 : (mVar 1) E = .ok (.str c) E) : (mDrop (mCall m_check_client (mCons (mProp "Run" m_Run_setting (mVar 0)) (mCons (mVar 1) mNil)))) E = .nx E := by
  have pr := prop_at (f := m_Run_setting) w0 run_place
  have am : (mCons (mProp "Run" m_Run_setting (mVar 0)) (mCons (mVar 1) mNil)) E = .ok [settingD hs fs rs ps, .str c] E := by
    rw [e_cons, pr, Rs.bind_ok, e_cons, w1]
    rfl
  rw [e_drop, e_mCall, am, Rs.bind_ok, check_client_ok F hw hc]
  rfl
def viewS (hs : List Str) (s : RSt) (c : Str) : Vw := (hs.filter fun h => hrdB s c h).map fun h => (h, (getA (ansOf s c) h).getD [])
end
end Mi
namespace Mi
open PySem DD
end Mi
set_option maxHeartbeats 200000
namespace Mi
open PySem DD
end Mi
namespace Mi
open PySem DD
end Mi
set_option maxHeartbeats 4000000
namespace Mi
open PySem DD
end Mi
namespace Mi
open PySem DD
end Mi
namespace Mi
open PySem DD
open L2 (Key)
theorem in_strL {y : Str} {part : List Str} (oy : okS y) (op : ∀ x ∈ part, okS x) : inD (.str y) (.lst (sl part)) = some (.bl (decide (y ∈ part))) := by
  rw [in_plL (pl_str (n := 60) oy) (sl_pl op)]
  have hm : (D.str y ∈ sl part) ↔ y ∈ part := sl_mem
  by_cases z : y ∈ part
  · have e : ∀ (i : Decidable (D.str y ∈ sl part)), @decide _ i = true := fun i => @decide_eq_true _ i (hm.mpr z)
    rw [e, decide_eq_true z]
  · have e : ∀ (i : Decidable (D.str y ∈ sl part)), @decide _ i = false := fun i => @decide_eq_false _ i fun n => z (hm.mp n)
    rw [e, decide_eq_false z]
section
variable {κ α : Type} [DecidableEq κ]
def rplB : List (κ × α) → κ → α → List (κ × α)
  | [], _, _ => []
  | p :: r, k, x => (p.1, if p.1 = k then x else p.2) :: rplB r k x
def putB (l : List (κ × α)) (k : κ) (x : α) : List (κ × α) := if k ∈ l.map (·.1) then rplB l k x else l ++ [(k, x)]
variable {μ β : Type} [DecidableEq μ] (f : κ → μ) (hf : ∀ a b, f a = f b ↔ a = b) (g : α → β)
include hf
end
structure LSt where
  rows : List (Str × List Str)
  hrd : List ((Str × Str) × List Str)
  beg : List Str
  fin : List Str
def kP (p : Str × Str) : List Key := [.inr p.1, .inr p.2]
def hrdD (l : List ((Str × Str) × List Str)) : D := .dtt (l.map fun p => kP p.1) (l.map fun p => tS p.2)
def lstD (L : LSt) : D := .tup [dD tS L.rows, hrdD L.hrd, .lst (sl L.beg), .lst (sl L.fin)]
def takeL (L : LSt) : Ev → LSt
  | .beg c => { L with beg := L.beg ++ [c] }
  | .fin c => { L with fin := L.fin ++ [c] }
  | .rea c h => { L with rows := putA L.rows h ((getA L.rows h).getD [] ++ [c]), hrd := if c ∈ L.fin then L.hrd else putB L.hrd (c, h) ((getA L.rows h).getD []) }
end Mi
namespace Mi
open PySem DD
end Mi
namespace Mi
open PySem DD
section
variable {hs : List Str} {fs : LL} {rs : List Str} {ps : List (Str × Str)} {s : RSt} {n : Nat} {L : LSt}
/-- the law's state behind one event, if it is let -/
def stepD (hs : List Str) (fs : LL) (s : RSt) (L : LSt) (e : Ev) : D := if letsB hs fs s e = true then lstD (takeL L e) else .non
end
end Mi
namespace Mi
open PySem DD
open L2 (Key)
instance : DecidableEq Ev := fun a b => match a, b with
  | .beg c, .beg d => if h : c = d then isTrue (by rw [h]) else isFalse fun z => h (Ev.beg.inj z)
  | .fin c, .fin d => if h : c = d then isTrue (by rw [h]) else isFalse fun z => h (Ev.fin.inj z)
  | .rea c g, .rea d k => if h : c = d ∧ g = k then isTrue (by rw [h.1, h.2]) else isFalse fun z => h ⟨(Ev.rea.inj z).1, (Ev.rea.inj z).2⟩
  | .beg _, .fin _ => isFalse fun z => by cases z
  | .beg _, .rea _ _ => isFalse fun z => by cases z
  | .fin _, .beg _ => isFalse fun z => by cases z
  | .fin _, .rea _ _ => isFalse fun z => by cases z
  | .rea _ _, .beg _ => isFalse fun z => by cases z
  | .rea _ _, .fin _ => isFalse fun z => by cases z
structure Tm (evs : List Ev) (s : RSt) : Prop where
  m : s.many = (evs.length : Nat)
  b : ∀ c (i : Int), getA s.beg c = some i ↔ ∃ k : Nat, i = (k : Int) ∧ evs[k]? = some (.beg c)
  f : ∀ c (i : Int), getA s.fin c = some i ↔ ∃ k : Nat, i = (k : Int) ∧ evs[k]? = some (.fin c)
  bf : ∀ c (k : Nat), evs[k]? = some (.fin c) → ∃ j, j < k ∧ evs[j]? = some (.beg c)
section
variable {hs : List Str} {fs : LL} {rs : List Str} {ps : List (Str × Str)} {cl : List Str} {s : RSt} {evs : List Ev}
/-- by the events alone -/
def Ahead (evs : List Ev) (a b : Str) : Prop := ∃ i j : Nat, i < j ∧ evs[i]? = some (.fin a) ∧ evs[j]? = some (.beg b)
theorem Tm.beg_one (T : Tm evs s) {a : Str} {i j : Nat} (h1 : evs[i]? = some (.beg a)) (h2 : evs[j]? = some (.beg a)) : i = j := by
  have e1 := (T.b a i).mpr ⟨i, rfl, h1⟩
  have e2 := (T.b a j).mpr ⟨j, rfl, h2⟩
  rw [e1] at e2
  have := Option.some.inj e2
  omega
theorem Tm.trans (T : Tm evs s) {a b c : Str} (h1 : Ahead evs a b) (h2 : Ahead evs b c) : Ahead evs a c := by
  obtain ⟨i, j, hij, hi, hj⟩ := h1
  obtain ⟨k, m, hkm, hk, hm⟩ := h2
  obtain ⟨q, hq, hq2⟩ := T.bf b k hk
  have := T.beg_one hj hq2
  exact ⟨i, m, by omega, hi, hm⟩
end
end Mi
namespace Mi
open PySem DD
section
variable {hs : List Str} {fs : LL} {rs : List Str} {ps : List (Str × Str)} {cl : List Str} {s : RSt} {evs : List Ev}
structure An (hs : List Str) (fs : LL) (cl : List Str) (s : RSt) : Prop where
  row : ∀ c h l, getA (ansOf s c) h = some l → l.Nodup ∧ (∀ x ∈ l, x ∈ cl) ∧ c ∉ l
  fall : ∀ c, finB s c = true → falls fs (hs.filter fun h => !hrdB s c h) = true
  fb : ∀ c, finB s c = true → begB s c = true
theorem An.take (A : An hs fs cl s) (S : SOk hs cl s) {e : Ev} (he : EvOk hs cl e) (lt : letsB hs fs s e = true) : An hs fs cl (takeS s e) := by
  cases e with
  | beg c =>
    refine ⟨A.row, A.fall, fun x q => ?_⟩
    rw [begB_beg, A.fb x q]
    rfl
  | fin c =>
    have lt' : (begB s c && (!finB s c && falls fs (hs.filter fun h => !hrdB s c h))) = true := lt
    rw [Bool.and_eq_true, Bool.and_eq_true] at lt'
    refine ⟨A.row, fun x q => ?_, fun x q => ?_⟩
    · rw [finB_fin, Bool.or_eq_true, decide_eq_true_iff] at q
      show falls fs (hs.filter fun h => !hrdB s x h) = true
      rcases q with q | q
      · exact A.fall x q
      · rw [q]; exact lt'.2.2
    · rw [finB_fin, Bool.or_eq_true, decide_eq_true_iff] at q
      show begB s x = true
      rcases q with q | q
      · exact A.fb x q
      · rw [q]; exact lt'.1
  | rea c h =>
    obtain ⟨hc, hh⟩ := he
    have lt' : (begB s c && !decide (c ∈ rowOf s h)) = true := lt
    rw [Bool.and_eq_true, Bool.not_eq_true', decide_eq_false_iff_not] at lt'
    refine ⟨fun x g l q => ?_, fun x q => ?_, A.fb⟩
    · rw [ansOf_rea S hc] at q
      by_cases z : finB s c = false ∧ x = c
      · rw [if_pos z, getA_put] at q
        by_cases y : g = h
        · rw [if_pos y] at q
          cases q
          exact ⟨(S.rn h).1, (S.rn h).2, z.2 ▸ lt'.2⟩
        · rw [if_neg y] at q
          rw [z.2]
          exact A.row c g l q
      · rw [if_neg z] at q
        exact A.row x g l q
    · have q' : finB s x = true := q
      have hf : ∀ g, hrdB (takeS s (.rea c h)) x g = hrdB s x g := fun g => by
        unfold hrdB
        rw [ansOf_rea S hc]
        by_cases z : finB s c = false ∧ x = c
        · rw [z.2, z.1] at q'
          cases q'
        · rw [if_neg z]
      have e : (hs.filter fun g => !hrdB (takeS s (.rea c h)) x g) = hs.filter fun g => !hrdB s x g := List.filter_congr fun g _ => by rw [hf g]
      rw [e]
      exact A.fall x q'
end
end Mi
namespace Mi
open PySem DD
end Mi
namespace Mi
open PySem DD
theorem Sel.len {α β : Type} {P : α → Bool → Prop} {Q : α → β → Prop} : ∀ {xs : List α} {ys : List β}, Sel P Q xs ys → ys.length ≤ xs.length
  | _, _, .nil => Nat.le_refl _
  | _, _, .skip _ h => Nat.le_succ_of_le h.len
  | _, _, .take _ _ h => Nat.succ_le_succ h.len
theorem Sel.mem {α β : Type} {P : α → Bool → Prop} {Q : α → β → Prop} : ∀ {xs : List α} {ys : List β}, Sel P Q xs ys → ∀ y ∈ ys, ∃ x ∈ xs, Q x y
  | _, _, .nil, y, hy => by cases hy
  | _, _, .skip _ h, y, hy => by
    obtain ⟨x, hx, q⟩ := h.mem y hy
    exact ⟨x, List.mem_cons_of_mem _ hx, q⟩
  | _, _, .take _ q h, y, hy => by
    rcases List.mem_cons.mp hy with rfl | hy
    · exact ⟨_, List.mem_cons_self, q⟩
    · obtain ⟨x, hx, q⟩ := h.mem y hy
      exact ⟨x, List.mem_cons_of_mem _ hx, q⟩
end Mi
namespace Mi
open PySem DD
end Mi
namespace Mi
open PySem DD
section
variable {hs : List Str} {fs : LL} {rs : List Str} {ps : List (Str × Str)} {s : RSt} {evs : List Ev}
theorem methK_at {E e2 : DEnv} {C m : Str} {ns : List Str} {ds es es' : List D} {f : List D → RP} {idx : List Nat} {a : MD} {ms : MA} {r : D} (hmn : m ∉ ns) (ha : a E = .ok (.ins C ns ds) E) (hm : ms E = .ok es e2) (hp : permL idx ([.ins C ns ds] ++ es) = es') (hf : f es' = .ok r) : mMethK C m f idx a ms E = .ok r e2 := by
  unfold mMethK
  rw [ha, Rs.bind_ok]
  show (if C = C ∧ m ∉ ns then _ else _) = _
  rw [if_pos ⟨rfl, hmn⟩, hm, Rs.bind_ok]
  show (match f (permL idx ([.ins C ns ds] ++ es)) with
    | .ok r => Rs.ok r e2
    | .exc x => .exc x e2
    | _ => .fail) = _
  rw [hp, hf]
end
end Mi
namespace Mi
open PySem DD
theorem txt_join (sep : Str) (ys : List Str) : Txt.join sep ys = Str.join sep ys := StrLaws.glued_eq_join sep ys
theorem sum_le {m : Nat} : ∀ {ys : List Str}, (∀ y ∈ ys, y.length ≤ m) → (ys.map (·.length)).sum ≤ ys.length * m
  | [], _ => Nat.zero_le _
  | y :: ys, h => by
    have ih := sum_le (ys := ys) fun z hz => h z (List.mem_cons_of_mem _ hz)
    have := h y List.mem_cons_self
    rw [List.map_cons, List.sum_cons, List.length_cons, Nat.succ_mul]
    omega
theorem join_len {sep : Str} {ys : List Str} {m : Nat} (h : ∀ y ∈ ys, y.length ≤ m) : (Txt.join sep ys).length ≤ ys.length * m + ys.length * sep.length := by
  rw [txt_join]
  have h1 := StrLaws.join_length_le sep ys
  have h2 := sum_le h
  omega
theorem join_at {E : DEnv} {ma mb : MD} {s : Str} {ys : List Str} {m : Nat} (ha : ma E = .ok (.str s) E) (hb : mb E = .ok (.lst (sl ys)) E) (hy : ∀ y ∈ ys, y.length ≤ m) (hm : ys.length * m + ys.length * s.length ≤ 16777216) : (mJoin ma mb) E = .ok (.str (Txt.join s ys)) E := by
  have h2 := sum_le hy
  unfold mJoin
  rw [ha, Rs.bind_ok]
  show ((mb E).bind fun y e2 => ofO (joinD (.str s) y) e2) = _
  rw [hb, Rs.bind_ok]
  show ofO ((strsD (sl ys)).bind fun ys => if (ys.map (·.length)).sum + ys.length * s.length ≤ 16777216 then some (D.str (Txt.join s ys)) else none) E = _
  rw [strsD_sl, Option.bind_some, if_pos (by omega)]
  rfl
theorem cp_join {sep : Str} {ys : List Str} (hs : cpOk sep) (hy : ∀ y ∈ ys, cpOk y) : cpOk (Txt.join sep ys) := by
  rw [txt_join]
  exact cpOk_join hs hy
section
variable {hs : List Str} {fs : LL} {rs : List Str} {ps : List (Str × Str)}
def pageL (hs : List Str) (fs : LL) (rs : List Str) (ps : List (Str × Str)) : List Str := ([Txt.join " " ("houses" :: hs)] ++ fs.map (fun l => Txt.join " " ("fail" :: l))) ++ (rs.map (fun r => (Str.empty ++ "reader ") ++ r) ++ ps.map fun p => Txt.join " " ["promise", p.1, p.2])
def pageS (hs : List Str) (fs : LL) (rs : List Str) (ps : List (Str × Str)) : Str := Txt.join "\n" (pageL hs fs rs ps)
/-- names are short -/
def ShortN (hs rs : List Str) : Prop := (∀ x ∈ hs, x.length ≤ 8) ∧ ∀ x ∈ rs, x.length ≤ 8
theorem ps_len5 (F : Fr hs fs rs ps) : ps.length ≤ 25 := by
  have rl := F.rl
  have h : ps.length ≤ (rs.flatMap fun x => rs.map fun y => (x, y)).length := pigeonG F.ndp fun p hp => List.mem_flatMap.mpr ⟨p.1, (F.pm p hp).1, List.mem_map.mpr ⟨p.2, (F.pm p hp).2.1, rfl⟩⟩
  have h2 : ∀ (l : List Str), (l.flatMap fun x => rs.map fun y => (x, y)).length = l.length * rs.length := by
    intro l
    induction l with
    | nil => simp
    | cons a l ih => rw [List.flatMap_cons, List.length_append, ih, List.length_map, List.length_cons, Nat.succ_mul]; omega
  rw [h2] at h
  exact Nat.le_trans h (Nat.mul_le_mul rl rl)
theorem page_len (F : Fr hs fs rs ps) (N : ShortN hs rs) : (∀ y ∈ pageL hs fs rs ps, y.length ≤ 200) ∧ (pageL hs fs rs ps).length ≤ 100 := by
  have hl := F.hl
  have rl := F.rl
  have fl := F.fl
  have pl' := ps_len5 F
  constructor
  · intro y hy
    unfold pageL at hy
    have jl : ∀ (xs : List Str), xs.length ≤ 9 → (∀ x ∈ xs, x.length ≤ 8) → (Txt.join " " xs).length ≤ 200 := fun xs h1 h2 => by
      have := join_len (sep := " ") h2
      have e : (" " : Str).length = 1 := by decide +kernel
      rw [e] at this
      omega
    rcases List.mem_append.mp hy with hy | hy
    · rcases List.mem_append.mp hy with hy | hy
      · rw [List.mem_singleton.mp hy]
        refine jl _ (by rw [List.length_cons]; omega) fun x hx => ?_
        rcases List.mem_cons.mp hx with rfl | hx
        · decide +kernel
        · exact N.1 x hx
      · obtain ⟨l, hl', rfl⟩ := List.mem_map.mp hy
        have sub := F.sub l hl'
        refine jl _ (by rw [List.length_cons]; have := sub.length_le; omega) fun x hx => ?_
        rcases List.mem_cons.mp hx with rfl | hx
        · decide +kernel
        · exact N.1 x (sub.subset hx)
    · rcases List.mem_append.mp hy with hy | hy
      · obtain ⟨r, hr, rfl⟩ := List.mem_map.mp hy
        rw [Str.length_append]
        have e : ((Str.empty ++ "reader " : Str)).length = 7 := by decide +kernel
        have := N.2 r hr
        omega
      · obtain ⟨p, hp, rfl⟩ := List.mem_map.mp hy
        obtain ⟨p1, p2, _⟩ := F.pm p hp
        refine jl _ (by show 3 ≤ 9; omega) fun x hx => ?_
        rcases List.mem_cons.mp hx with rfl | hx
        · decide +kernel
        · rcases List.mem_cons.mp hx with rfl | hx
          · exact N.2 _ p1
          · rw [List.mem_singleton.mp hx]; exact N.2 _ p2
  · unfold pageL
    rw [List.length_append, List.length_append, List.length_append, List.length_map, List.length_map, List.length_map, List.length_singleton]
    omega
theorem page_ok (F : Fr hs fs rs ps) : okS (pageS hs fs rs ps) := by
  obtain ⟨oh, or, op, of⟩ := oks F
  have cs : ∀ s : String, cpOk (Str.ofString s) := cpOk_of
  refine strOk_iff.mpr (cp_join (cs "\n") fun y hy => ?_)
  unfold pageL at hy
  rcases List.mem_append.mp hy with hy | hy
  · rcases List.mem_append.mp hy with hy | hy
    · rw [List.mem_singleton.mp hy]
      refine cp_join (cs " ") fun x hx => ?_
      rcases List.mem_cons.mp hx with rfl | hx
      · exact cs _
      · exact strOk_iff.mp (oh x hx)
    · obtain ⟨l, hl', rfl⟩ := List.mem_map.mp hy
      refine cp_join (cs " ") fun x hx => ?_
      rcases List.mem_cons.mp hx with rfl | hx
      · exact cs _
      · exact strOk_iff.mp (of l hl' x hx)
  · rcases List.mem_append.mp hy with hy | hy
    · obtain ⟨r, hr, rfl⟩ := List.mem_map.mp hy
      exact cpOk_app (cpOk_app (fun c hc => by cases hc) (cs _)) (strOk_iff.mp (or r hr))
    · obtain ⟨p, hp, rfl⟩ := List.mem_map.mp hy
      refine cp_join (cs " ") fun x hx => ?_
      rcases List.mem_cons.mp hx with rfl | hx
      · exact cs _
      · rcases List.mem_cons.mp hx with rfl | hx
        · exact strOk_iff.mp (op p hp).1
        · rw [List.mem_singleton.mp hx]; exact strOk_iff.mp (op p hp).2
theorem star_at {E : DEnv} {m : MD} {x : D} {ys : List D} {w : D} (hx : x = .tup ys) (h : m E = .ok x E) : (mLst (mCons (mC w) (mStar m mNil))) E = if ys.length + 1 ≤ 16777216 then .ok (.lst (w :: ys)) E else .fail := by
  subst hx
  rw [e_lst, e_cons, e_c, Rs.bind_ok, e_star, h, Rs.bind_ok]
  show Rs.bind (Rs.bind (Rs.bind (mNil E) _) _) _ = _
  rw [e_nil, Rs.bind_ok, Rs.bind_ok, Rs.bind_ok, size_e, List.append_nil]
  rfl
theorem ext_at {i : Nat} {me : MD} {env : DEnv} {ds es : List D} (h1 : env[i]? = some (some (oL es))) (h : me env = .ok (.lst ds) env) (hl : es.length + ds.length ≤ 16777216) : mExt i me env = .nx (env.set i (some (oL (es ++ ds)))) := by
  rw [e_ext ⟨_, h1⟩ h h1 (by rw [List.length_map, size_e]; exact hl)]
  unfold oL
  rw [List.map_append]
theorem setting_str_ok (F : Fr hs fs rs ps) (N : ShortN hs rs) : m_Setting___str__ [settingD hs fs rs ps] = .ok (.str (pageS hs fs rs ps)) := by
  have hl := F.hl
  have rl := F.rl
  have fl := F.fl
  have pl' := ps_len5 F
  obtain ⟨pg1, pg2⟩ := page_len F N
  have e1 : (" " : Str).length = 1 := by decide +kernel
  have e2 : ("\n" : Str).length = 1 := by decide +kernel
  have hb : m_Setting___str__ [settingD hs fs rs ps] = finP (b_Setting___str__ [some (.d (settingD hs fs rs ps)), none, none, none, none]) := rfl
  rw [hb]
  unfold b_Setting___str__
  have fldH : ∀ E : DEnv, (mVar 0) E = .ok (settingD hs fs rs ps) E → (mFld "Setting" "houses" (mVar 0)) E = .ok (.tup (sl hs)) E := fun E w => by
    unfold mFld
    rw [e_un, w, Rs.bind_ok, fld_houses]
    rfl
  have fldF : ∀ E : DEnv, (mVar 0) E = .ok (settingD hs fs rs ps) E → (mIter (mFld "Setting" "fails" (mVar 0))) E = .ok (tl fs) E := fun E w => by
    unfold mFld
    rw [e_iter, e_un, w, Rs.bind_ok, fld_fails]
    rfl
  have fldR : ∀ E : DEnv, (mVar 0) E = .ok (settingD hs fs rs ps) E → (mIter (mFld "Setting" "readers" (mVar 0))) E = .ok (sl rs) E := fun E w => by
    unfold mFld
    rw [e_iter, e_un, w, Rs.bind_ok, show fldD "Setting" "readers" (settingD hs fs rs ps) = some (.tup (sl rs)) by kernel_rfl]
    rfl
  have fldP : ∀ E : DEnv, (mVar 0) E = .ok (settingD hs fs rs ps) E → (mIter (mFld "Setting" "promises" (mVar 0))) E = .ok (pl ps) E := fun E w => by
    unfold mFld
    rw [e_iter, e_un, w, Rs.bind_ok, show fldD "Setting" "promises" (settingD hs fs rs ps) = some (.tup (pl ps)) by kernel_rfl]
    rfl
  generalize hY : settingD hs fs rs ps = Y at fldH fldF fldR fldP
  have jn : ∀ (E : DEnv) (m : MD) (w : Str) (ys : List Str), m E = .ok (.tup (sl ys)) E → w.length ≤ 8 → ys.length ≤ 8 → (∀ y ∈ ys, y.length ≤ 8) → (mJoin (mC (.str " ")) (mLst (mCons (mC (.str w)) (mStar m mNil)))) E = .ok (.str (Txt.join " " (w :: ys))) E := fun E m w ys hm hw hy hyl => by
    have st := star_at (w := .str w) rfl hm
    rw [if_pos (by unfold sl; rw [List.length_map]; omega)] at st
    refine join_at (ys := w :: ys) (m := 8) rfl st (fun y h => ?_) (by rw [List.length_cons, e1]; omega)
    rcases List.mem_cons.mp h with rfl | h
    · exact hw
    · exact hyl y h
  have lw : ∀ w ∈ (["houses", "fail", "promise"] : List Str), w.length ≤ 8 := by decide +kernel
  -- the houses' line
  have s1 : (mSetO 1 (mLstO (mCons (mJoin (mC (.str " ")) (mLst (mCons (mC (.str "houses")) (mStar (mFld "Setting" "houses" (mVar 0)) mNil)))) mNil))) [some (.d Y), none, none, none, none] = .nx [some (.d Y), some (oL (sl [Txt.join " " ("houses" :: hs)])), none, none, none] := by
    have j := jn [some (.d Y), none, none, none, none] (mFld "Setting" "houses" (mVar 0)) "houses" hs (fldH _ rfl) (lw _ (by simp)) hl N.1
    rw [e_setO, e_lstO, e_cons, j, Rs.bind_ok, e_nil, Rs.bind_ok, Rs.bind_ok, size_e, if_pos (by show 1 ≤ 16777216; omega), Rs.on_ok, if_pos (by show 1 < 5; omega)]
    rfl
  have s2 : (mExt 1 (mLc (mIter (mFld "Setting" "fails" (mVar 0))) (gV 2) mYes (mJoin (mC (.str " ")) (mLst (mCons (mC (.str "fail")) (mStar (mVar 2) mNil)))) [2])) [some (.d Y), some (oL (sl [Txt.join " " ("houses" :: hs)])), none, none, none] = .nx [some (.d Y), some (oL (sl ([Txt.join " " ("houses" :: hs)] ++ fs.map fun l => Txt.join " " ("fail" :: l)))), none, none, none] := by
    have lc := lc_map (i := 2) (it := mIter (mFld "Setting" "fails" (mVar 0))) (elt := mJoin (mC (.str " ")) (mLst (mCons (mC (.str "fail")) (mStar (mVar 2) mNil)))) (env := [some (.d Y), some (oL (sl [Txt.join " " ("houses" :: hs)])), none, none, none]) tS fs (fun l => .str (Txt.join " " ("fail" :: l))) (fldF _ rfl) (by omega) (by simp) (fun l hl' => by
      have sub := F.sub l hl'
      exact jn _ (mVar 2) "fail" l rfl (lw _ (by simp)) (Nat.le_trans sub.length_le hl) fun y hy => N.1 y (sub.subset hy))
    have e : ([some (.d Y), some (oL (sl [Txt.join " " ("houses" :: hs)])), none, none, none] : DEnv).set 2 none = [some (.d Y), some (oL (sl [Txt.join " " ("houses" :: hs)])), none, none, none] := rfl
    rw [e] at lc
    rw [ext_at (es := sl [Txt.join " " ("houses" :: hs)]) rfl lc (by unfold sl; rw [List.length_map, List.length_map, List.length_singleton]; omega)]
    unfold sl
    rw [List.map_append, List.map_map]
    rfl
  generalize hA : ([Txt.join " " ("houses" :: hs)] ++ fs.map fun l => Txt.join " " ("fail" :: l)) = A at s2
  have lA : A.length ≤ 9 := by rw [← hA, List.length_append, List.length_map, List.length_singleton]; omega
  have s3 : (mExt 1 (mLc (mIter (mFld "Setting" "readers" (mVar 0))) (gV 3) mYes (mJoined (mJcons (mC (.str "reader ")) (mJcons (mFmt (mVar 3)) mJnil))) [3])) [some (.d Y), some (oL (sl A)), none, none, none] = .nx [some (.d Y), some (oL (sl (A ++ rs.map fun r => (Str.empty ++ "reader ") ++ r))), none, none, none] := by
    have lc := lc_map (i := 3) (it := mIter (mFld "Setting" "readers" (mVar 0))) (elt := mJoined (mJcons (mC (.str "reader ")) (mJcons (mFmt (mVar 3)) mJnil))) (env := [some (.d Y), some (oL (sl A)), none, none, none]) D.str rs (fun r => .str ((Str.empty ++ "reader ") ++ r)) (fldR _ rfl) (by omega) (by simp) (fun r hr => by
      generalize hG : ([some (.d Y), some (oL (sl A)), none, none, none] : DEnv).set 3 (some (.d (.str r))) = G
      have w3 : (mVar 3) G = .ok (.str r) G := by rw [← hG]; rfl
      have r8 := N.2 r hr
      have fm : (mFmt (mVar 3)) G = .ok (.str r) G := by
        unfold mFmt
        rw [w3, Rs.bind_ok]
        show (if r.length ≤ sizeLine then _ else _) = _
        rw [if_pos (by rw [size_e]; omega)]
      have e7 : ((Str.empty ++ "reader " : Str)).length = 7 := by decide +kernel
      have j1 : (mJcons (mC (.str "reader ")) (mJcons (mFmt (mVar 3)) mJnil)) Str.empty G = .ok ((Str.empty ++ "reader ") ++ r) G := by
        show (if (Str.empty ++ "reader " : Str).length ≤ sizeLine then (mJcons (mFmt (mVar 3)) mJnil) (Str.empty ++ "reader ") G else Rs.fail) = _
        rw [if_pos (by rw [e7, size_e]; omega)]
        unfold mJcons
        rw [fm, Rs.bind_ok]
        show (if ((Str.empty ++ "reader ") ++ r : Str).length ≤ sizeLine then mJnil ((Str.empty ++ "reader ") ++ r) G else Rs.fail) = _
        rw [if_pos (by rw [Str.length_append, e7, size_e]; omega)]
        rfl
      unfold mJoined
      rw [j1]
      rfl)
    have e : ([some (.d Y), some (oL (sl A)), none, none, none] : DEnv).set 3 none = [some (.d Y), some (oL (sl A)), none, none, none] := rfl
    rw [e] at lc
    rw [ext_at (es := sl A) rfl lc (by unfold sl; rw [List.length_map, List.length_map]; omega)]
    unfold sl
    rw [List.map_append, List.map_map]
    rfl
  have s4 : (mExt 1 (mLc (mIter (mFld "Setting" "promises" (mVar 0))) (gV 4) mYes (mJoin (mC (.str " ")) (mLst (mCons (mC (.str "promise")) (mStar (mVar 4) mNil)))) [4])) [some (.d Y), some (oL (sl (A ++ rs.map fun r => (Str.empty ++ "reader ") ++ r))), none, none, none] = .nx [some (.d Y), some (oL (sl (pageL hs fs rs ps))), none, none, none] := by
    generalize hB : (A ++ rs.map fun r => (Str.empty ++ "reader ") ++ r) = B
    have lB : B.length ≤ 14 := by rw [← hB, List.length_append, List.length_map]; omega
    have lc := lc_map (i := 4) (it := mIter (mFld "Setting" "promises" (mVar 0))) (elt := mJoin (mC (.str " ")) (mLst (mCons (mC (.str "promise")) (mStar (mVar 4) mNil)))) (env := [some (.d Y), some (oL (sl B)), none, none, none]) (fun p : Str × Str => D.tup [.str p.1, .str p.2]) ps (fun p => .str (Txt.join " " ["promise", p.1, p.2])) (fldP _ rfl) (by omega) (by simp) (fun p hp => by
      obtain ⟨p1, p2, _⟩ := F.pm p hp
      refine jn _ (mVar 4) "promise" [p.1, p.2] rfl (lw _ (by simp)) (by show 2 ≤ 8; omega) fun y hy => ?_
      rcases List.mem_cons.mp hy with rfl | hy
      · exact N.2 _ p1
      · rw [List.mem_singleton.mp hy]; exact N.2 _ p2)
    have e : ([some (.d Y), some (oL (sl B)), none, none, none] : DEnv).set 4 none = [some (.d Y), some (oL (sl B)), none, none, none] := rfl
    rw [e] at lc
    rw [ext_at (es := sl B) rfl lc (by unfold sl; rw [List.length_map, List.length_map]; omega)]
    have e3 : pageL hs fs rs ps = B ++ ps.map fun p => Txt.join " " ["promise", p.1, p.2] := by
      unfold pageL
      rw [hA, ← List.append_assoc, hB]
    rw [e3]
    unfold sl
    rw [List.map_append, List.map_map]
    rfl
  have jf : (mJoin (mC (.str "\n")) (mVar 1)) [some (.d Y), some (.d (.lst (sl (pageL hs fs rs ps)))), none, none, none] = .ok (.str (pageS hs fs rs ps)) [some (.d Y), some (.d (.lst (sl (pageL hs fs rs ps)))), none, none, none] := join_at (ys := pageL hs fs rs ps) (m := 200) rfl rfl pg1 (by rw [e2]; omega)
  have fr : ([some (.d Y), some (oL (sl (pageL hs fs rs ps))), none, none, none] : DEnv)[1]? = some (some (oL (sl (pageL hs fs rs ps)))) := rfl
  rw [e_seq, s1, andThen_nx, e_seq, s2, andThen_nx, e_seq, s3, andThen_nx, e_seq, s4, andThen_nx, e_frz fr, fz_oL, e_ret]
  show finP ((mJoin (mC (.str "\n")) (mVar 1) [some (.d Y), some (.d (.lst (sl (pageL hs fs rs ps)))), none, none, none]).on _) = _
  rw [jf]
  rfl
end
end Mi
namespace Mi
open PySem DD
section
variable {hs : List Str} {fs : LL} {rs : List Str} {ps : List (Str × Str)} {cl : List Str} {s s' s'' : RSt} {evs evs' : List Ev}
/-- a later state -/
structure Goes (s s' : RSt) : Prop where
  r : ∀ h, ∃ t, rowOf s' h = rowOf s h ++ t
  b : ∀ c, begB s c = true → begB s' c = true
  f : ∀ c, finB s c = true → finB s' c = true
  a : ∀ c h l, getA (ansOf s c) h = some l → getA (ansOf s' c) h = some l
  e : ∀ c, finB s c = true → ansOf s' c = ansOf s c
theorem Goes.refl : Goes s s := ⟨fun h => ⟨[], by rw [List.append_nil]⟩, fun _ h => h, fun _ h => h, fun _ _ _ h => h, fun _ _ => rfl⟩
theorem Goes.trans (A : Goes s s') (B : Goes s' s'') : Goes s s'' := by
  refine ⟨fun h => ?_, fun c h => B.b c (A.b c h), fun c h => B.f c (A.f c h), fun c h l q => B.a c h l (A.a c h l q), fun c q => by rw [B.e c (A.f c q), A.e c q]⟩
  obtain ⟨t, ht⟩ := A.r h
  obtain ⟨u, hu⟩ := B.r h
  exact ⟨t ++ u, by rw [hu, ht, List.append_assoc]⟩
/-- a house that was heard has the client in its row -/
def Hin (s : RSt) : Prop := ∀ c h, hrdB s c h = true → c ∈ rowOf s h
theorem Hin.take (H : Hin s) (S : SOk hs cl s) {e : Ev} (he : EvOk hs cl e) : Hin (takeS s e) := by
  cases e with
  | beg c => exact H
  | fin c => exact H
  | rea c h =>
    obtain ⟨hc, hh⟩ := he
    intro x g q
    rw [rowOf_rea S hh]
    unfold hrdB at q
    rw [ansOf_rea S hc] at q
    by_cases z : finB s c = false ∧ x = c
    · rw [if_pos z] at q
      rcases (putA_keys g).mp (of_decide_eq_true q) with y | y
      · have m := H c g (decide_eq_true y)
        rw [z.2]
        by_cases w : g = h
        · rw [if_pos w, ← w]; exact List.mem_append_left _ m
        · rw [if_neg w]; exact m
      · rw [if_pos y, z.2]
        exact List.mem_append_right _ (List.mem_singleton.mpr rfl)
    · rw [if_neg z] at q
      have m := H x g q
      by_cases w : g = h
      · rw [if_pos w, ← w]; exact List.mem_append_left _ m
      · rw [if_neg w]; exact m
theorem Goes.step (H : Hin s) (S : SOk hs cl s) {e : Ev} (he : EvOk hs cl e) (lt : letsB hs fs s e = true) : Goes s (takeS s e) := by
  cases e with
  | beg c =>
    exact ⟨fun h => ⟨[], (List.append_nil _).symm⟩, fun x q => by rw [begB_beg, q]; rfl, fun _ h => h, fun _ _ _ h => h, fun _ _ => rfl⟩
  | fin c =>
    exact ⟨fun h => ⟨[], (List.append_nil _).symm⟩, fun _ h => h, fun x q => by rw [finB_fin, q]; rfl, fun _ _ _ h => h, fun _ _ => rfl⟩
  | rea c h =>
    obtain ⟨hc, hh⟩ := he
    have lt' : (begB s c && !decide (c ∈ rowOf s h)) = true := lt
    refine ⟨fun g => ?_, fun _ h => h, fun _ h => h, fun x g l q => ?_, fun x q => ?_⟩
    · rw [rowOf_rea S hh]
      by_cases z : g = h
      · rw [if_pos z, z]; exact ⟨[c], rfl⟩
      · rw [if_neg z]; exact ⟨[], by rw [List.append_nil]⟩
    · rw [ansOf_rea S hc]
      by_cases z : finB s c = false ∧ x = c
      · rw [if_pos z, getA_put]
        by_cases y : g = h
        · -- a house that was heard has the client in its row
          exfalso
          rw [Bool.and_eq_true, Bool.not_eq_true', decide_eq_false_iff_not] at lt'
          refine lt'.2 (H c h (decide_eq_true (getA_mem.mpr ⟨l, ?_⟩)))
          rw [← y, ← z.2]
          exact q
        · rw [if_neg y, ← z.2]; exact q
      · rw [if_neg z]; exact q
    · rw [ansOf_rea S hc, if_neg]
      rintro ⟨z1, z2⟩
      rw [z2, z1] at q
      cases q
theorem Goes.run : ∀ {evs : List Ev} {s s' : RSt}, Hin s → SOk hs cl s → (∀ e ∈ evs, EvOk hs cl e) → runE hs fs s evs = some s' → Goes s s'
  | [], s, s', A, S, _, h => by
    cases h
    exact Goes.refl
  | e :: r, s, s', A, S, he, h => by
    have h1 := he e List.mem_cons_self
    unfold runE at h
    by_cases q : letsB hs fs s e = true
    · rw [if_pos q] at h
      exact (Goes.step A S h1 q).trans (Goes.run (A.take S h1) (take_sok S h1 q) (fun y hy => he y (List.mem_cons_of_mem _ hy)) h)
    · rw [if_neg q] at h
      cases h
end
end Mi
namespace Mi
open PySem DD
open L2 (Key)
end Mi
set_option maxHeartbeats 1000000
namespace Mi
open PySem DD
abbrev At (E : DEnv) (m : MD) (d : D) : Prop := m E = .ok d E
abbrev AtA (E : DEnv) (m : MA) (ds : List D) : Prop := m E = .ok ds E
abbrev AtB (E : DEnv) (m : MB) (b : Bool) : Prop := m E = .ok b E
section
variable {E E1 E2 : DEnv} {a b c m : MD} {ms : MA} {x y z d : D} {ds es xs : List D} {p q : MB} {u v w : Bool} {f : D → D → Option D} {g : List D → Option D} {h : List D → RP} {C n : Str} {i j : Nat} {s t : MS} {R : RS}
theorem at_nil : AtA E mNil [] := rfl
theorem at_cons (h1 : At E m d) (h2 : AtA E ms ds) : AtA E (mCons m ms) (d :: ds) := by
  show (mCons m ms) E = _
  rw [e_cons, show m E = _ from h1, Rs.bind_ok, show ms E = _ from h2, Rs.bind_ok]
theorem at_1 (h1 : At E m d) : AtA E (mCons m mNil) [d] := at_cons h1 at_nil
theorem at_call (hm : AtA E ms ds) (hf : h ds = .ok d) : At E (mCall h ms) d := by
  show (mCall h ms) E = _
  rw [e_mCall, show ms E = _ from hm, Rs.bind_ok, hf]
  rfl
theorem at_cb (hm : AtA E ms ds) (hf : g ds = some d) : At E (mCB g ms) d := by
  show (mCB g ms) E = _
  rw [e_cb, show ms E = _ from hm, Rs.bind_ok, hf]
  rfl
theorem at_op (h1 : At E a x) (h2 : At E b y) (hf : f x y = some d) : At E (mOp f a b) d := by
  show (mOp f a b) E = _
  rw [e_op, show a E = _ from h1, Rs.bind_ok, show b E = _ from h2, Rs.bind_ok, hf]
  rfl
theorem at_un {f : D → Option D} (h1 : At E a x) (hf : f x = some d) : At E (mUn f a) d := by
  show (mUn f a) E = _
  rw [e_un, show a E = _ from h1, Rs.bind_ok, hf]
  rfl
theorem at_fldW (h1 : At E a x) (hf : fldD C n x = some d) : At E (mFld C n a) d := at_un h1 hf
theorem at_meth {ns : List Str} (hn : n ∉ ns) (h1 : At E a (.ins C ns ds)) (hm : AtA E ms es) (hf : h (.ins C ns ds :: es) = .ok d) : At E (mMeth C n h a ms) d := meth_atN hn h1 hm hf
theorem at_tup (hm : AtA E ms ds) (hl : ds.length ≤ 1000) : At E (mTup ms) (.tup ds) := by
  show (mTup ms) E = _
  rw [e_tup, show ms E = _ from hm, Rs.bind_ok, size_e, if_pos (by omega)]
theorem at_lst (hm : AtA E ms ds) (hl : ds.length ≤ 1000) : At E (mLst ms) (.lst ds) := by
  show (mLst ms) E = _
  rw [e_lst, show ms E = _ from hm, Rs.bind_ok, size_e, if_pos (by omega)]
theorem at_test (h1 : At E a (.bl u)) : AtB E (mTest a) u := by
  show (mTest a) E = _
  rw [e_test, show a E = _ from h1, Rs.bind_ok, e_asB]
theorem at_not (h1 : AtB E p u) : AtB E (mNot p) (!u) := by
  show (mNot p) E = _
  rw [e_not, show p E = _ from h1, Rs.bind_ok]
theorem at_and (h1 : AtB E p u) (h2 : u = true → AtB E q v) : AtB E (mAnd p q) (u && v) := by
  show (mAnd p q) E = _
  rw [e_and, show p E = _ from h1, Rs.bind_ok]
  cases u with
  | true => rw [if_pos rfl, show q E = _ from h2 rfl]; rfl
  | false => rfl
theorem at_or (h1 : AtB E p u) (h2 : u = false → AtB E q v) : AtB E (mOr p q) (u || v) := by
  show (mOr p q) E = _
  rw [e_or, show p E = _ from h1, Rs.bind_ok]
  cases u with
  | true => rfl
  | false => rw [if_neg Bool.false_ne_true, show q E = _ from h2 rfl]; rfl
theorem at_andV (h1 : At E a (.bl u)) (h2 : u = true → At E b (.bl v)) : At E (mAndV a b) (.bl (u && v)) := by
  show (mAndV a b) E = _
  rw [e_andV, show a E = _ from h1, Rs.bind_ok, e_asB]
  cases u with
  | true => rw [if_pos rfl, show b E = _ from h2 rfl]; rfl
  | false => rfl
theorem at_if (h1 : AtB E p u) (h2 : u = true → At E a d) (h3 : u = false → At E b d) : At E (mIf p a b) d := by
  show (mIf p a b) E = _
  rw [e_if, show p E = _ from h1, Rs.bind_ok]
  cases u with
  | true => rw [if_pos rfl]; exact h2 rfl
  | false => rw [if_neg Bool.false_ne_true]; exact h3 rfl
theorem at_iter (h1 : At E a x) (hx : iterD x = some xs) : AtA E (mIter a) xs := by
  show (mIter a) E = _
  rw [e_iter, show a E = _ from h1, Rs.bind_ok, hx]
  rfl
theorem at_din {α : Type} (k : α → D) {l : List (Str × α)} {st : Str} (hk : At E a (.str st)) (hd : At E b (dD k l)) : At E (mDInF true a b) (.bl (decide (st ∈ l.map (·.1)))) := by
  show (mDInF true a b) E = _
  unfold mDInF
  rw [show a E = _ from hk, Rs.bind_ok, show b E = _ from hd, Rs.bind_ok, inF_dD]
  show Rs.ok (D.bl (true == _)) _ = _
  rw [Bool.true_beq]
theorem at_dget {α : Type} (k : α → D) {l : List (Str × α)} {st : Str} {r : α} (hd : At E a (dD k l)) (hk : At E b (.str st)) (hg : getA l st = some r) : At E (mDGet a b) (k r) := by
  show (mDGet a b) E = _
  unfold mDGet
  rw [show a E = _ from hd, Rs.bind_ok, show b E = _ from hk, Rs.bind_ok, getF_dD, hg]
  rfl
/-- a comprehension -/
theorem at_lc {α : Type} {it : MA} {tg : D → DEnv → Option DEnv} {vs : List Nat} (k : α → D) (Ex : α → DEnv) (l : List α) (t : α → Bool) (r : α → D) (hi : AtA E it (l.map k)) (hl : l.length < 100000) (hv : (vs.all fun v => decide (v < E.length)) = true) (hW : wipeE E vs = E)
    (hx : ∀ x ∈ l, tg (k x) E = some (Ex x) ∧ wipeE (Ex x) vs = E ∧ AtB (Ex x) p (t x) ∧ (t x = true → At (Ex x) a (r x))) : At E (mLc it tg p a vs) (.lst ((l.filter t).map r)) :=
  lc_gen k Ex l t r hi (by omega) hv hW hx
theorem filter_yes {α : Type} (l : List α) : (l.filter fun _ => true) = l := List.filter_eq_self.mpr fun _ _ => rfl
theorem at_lcm {α : Type} {it : MA} {tg : D → DEnv → Option DEnv} {vs : List Nat} (k : α → D) (Ex : α → DEnv) (l : List α) (r : α → D) (hi : AtA E it (l.map k)) (hl : l.length < 100000) (hv : (vs.all fun v => decide (v < E.length)) = true) (hW : wipeE E vs = E)
    (hx : ∀ x ∈ l, tg (k x) E = some (Ex x) ∧ wipeE (Ex x) vs = E ∧ At (Ex x) a (r x)) : At E (mLc it tg mYes a vs) (.lst (l.map r)) := by
  have h := at_lc (p := mYes) k Ex l (fun _ => true) r hi hl hv hW fun x hx' => by
    obtain ⟨h1, h2, h3⟩ := hx x hx'
    exact ⟨h1, h2, rfl, fun _ => h3⟩
  rwa [filter_yes] at h
theorem finR {r : RS} {d : D} {E : DEnv} (h : r = .rt d E) : finP r = .ok d := by
  rw [h]
  rfl
/-- statements -/
theorem st_seq (h1 : s E = .nx E1) (h2 : t E1 = R) : mSeq s t E = R := by
  rw [e_seq, h1, andThen_nx, h2]
theorem st_stop (h1 : s E = .rt d E1) : mSeq s t E = .rt d E1 := by
  rw [e_seq, h1, andThen_rt]
theorem st_set (h1 : At E a d) : mSet i a E = .nx (E.set i (some (.d d))) := by
  rw [e_set, show a E = _ from h1]
  rfl
theorem st_ret (h1 : At E a d) : mRet a E = .rt d E := by
  rw [e_ret, show a E = _ from h1]
  rfl
theorem st_if (h1 : AtB E p u) (h2 : u = true → s E = R) (h3 : u = false → t E = R) : mIfS p s t E = R := by
  rw [e_ifS, show p E = _ from h1, Rs.on_ok]
  cases u with
  | true => rw [if_pos rfl]; exact h2 rfl
  | false => rw [if_neg Bool.false_ne_true]; exact h3 rfl
theorem st_ifF (h1 : AtB E p false) : mIfS p s mSkip E = .nx E := st_if h1 (fun q => nomatch q) fun _ => rfl
theorem st_for {it : MA} {tg : D → DEnv → Option DEnv} {l : List D} (hi : AtA E it l) (h : DD.forM tg s l E = R) : mFor it tg s E = R := by
  rw [e_for, show it E = _ from hi, Rs.on_ok, h]
end
end Mi
namespace Mi
open PySem DD
open Classical
/-- the first place where f holds -/
def firstB (f : Nat → Bool) : Nat → Nat → Option Nat
  | _, 0 => none
  | i, n + 1 => if f i = true then some i else firstB f (i + 1) n
theorem firstB_none {f : Nat → Bool} : ∀ {n i : Nat}, firstB f i n = none → ∀ j, i ≤ j → j < i + n → f j = false
  | 0, i, _, j, h1, h2 => absurd h2 (by omega)
  | n + 1, i, h, j, h1, h2 => by
    unfold firstB at h
    by_cases q : f i = true
    · rw [if_pos q] at h
      cases h
    · rw [if_neg q] at h
      by_cases e : j = i
      · rw [e]
        exact Bool.eq_false_iff.mpr q
      · exact firstB_none h j (by omega) (by omega)
theorem firstB_lt {f : Nat → Bool} : ∀ {n i k : Nat}, firstB f i n = some k → k < i + n
  | 0, i, k, h => by cases h
  | n + 1, i, k, h => by
    unfold firstB at h
    by_cases q : f i = true
    · rw [if_pos q] at h
      cases h
      omega
    · rw [if_neg q] at h
      have := firstB_lt h
      omega
theorem at_sliceT {E : DEnv} {a b : MD} {xs : List D} {k : Nat} (h1 : At E a (.tup xs)) (h2 : At E b (.int (k : Nat))) : At E (mSlice a mNoPart (mPart b)) (.tup (xs.take k)) := by
  show (mSlice _ _ _) E = _
  rw [e_slice, show a E = _ from h1, Rs.bind_ok, e_noPart, Rs.bind_ok, e_part, show b E = _ from h2, Rs.bind_ok, e_asI, Rs.bind_ok]
  show ofO (some (D.tup (cutD xs none (some (k : Int))))) E = _
  rw [v_cut0]
  rfl
def okT (s : Str) : Prop := okS s ∧ s.length ≤ 1000
/-- a thing that may stand in a part -/
def El (d : D) : Prop := (∃ s, okT s ∧ d = .str s) ∨ d = .int 3 ∨ d = .lst []
def Th (d : D) : Prop := (∃ ds, d = .tup ds ∧ (∀ e ∈ ds, El e) ∧ ds.length ≤ 20) ∨ (∃ s, okT s ∧ d = .str s) ∨ (isiD "tuple" d = some (.bl false) ∧ isiD "str" d = some (.bl false))
end Mi
namespace Mi
open PySem DD
open Classical
def Part (B : Nat) (x : D) : Prop := (∃ vs, x = .tup vs ∧ (∀ d ∈ vs, Th d) ∧ vs.length ≤ B) ∨ isiD "tuple" x = some (.bl false)
def gB (hs : List Str) : D → Bool
  | .str s => decide (s ∈ hs)
  | _ => false
section
variable {hs : List Str}
theorem gB_at {E : DEnv} {i j : Nat} {e : D} (he : El e) (oh : ∀ x ∈ hs, okS x) (h1 : At E (mVar i) e) (h2 : At E (mVar j) (.tup (sl hs))) : At E (mAndV (mUn (isiD "str") (mVar i)) (mOp inD (mVar i) (mVar j))) (.bl (gB hs e)) := by
  rcases he with ⟨s, hs1, rfl⟩ | rfl | rfl
  · have e : decide (D.str s ∈ sl hs) = decide (s ∈ hs) := decide_eq_decide.mpr sl_mem
    have := at_andV (at_un h1 (show isiD "str" (.str s) = some (.bl true) from rfl)) fun _ => at_op h1 h2 (in_plT (pl_str hs1.1) (sl_pl oh))
    rw [e] at this
    exact this
  · exact at_andV (u := false) (v := false) (at_un h1 rfl) fun z => nomatch z
  · exact at_andV (u := false) (v := false) (at_un h1 rfl) fun z => nomatch z
theorem all_g {ds : List D} (h : ds.all (gB hs) = true) : ∃ ys : List Str, ds = sl ys ∧ ∀ y ∈ ys, y ∈ hs := by
  induction ds with
  | nil => exact ⟨[], rfl, fun y hy => nomatch hy⟩
  | cons d ds ih =>
    rw [List.all_cons, Bool.and_eq_true] at h
    obtain ⟨ys, rfl, hy⟩ := ih h.2
    cases d with
    | str s => exact ⟨s :: ys, rfl, fun y hy' => by
        rcases List.mem_cons.mp hy' with rfl | hy'
        · exact of_decide_eq_true h.1
        · exact hy y hy'⟩
    | _ => cases h.1
theorem g_all {ys : List Str} (h : ∀ y ∈ ys, y ∈ hs) : (sl ys).all (gB hs) = true := by
  rw [List.all_eq_true]
  intro d hd
  obtain ⟨y, hy, rfl⟩ := List.mem_map.mp hd
  exact decide_eq_true (h y hy)
def spI (hs ys : List Str) : List Int := ys.map fun y => (((placeS y hs).getD 0 : Nat) : Int)
def lotP (hs : List Str) (d : D) : Prop := ∃ ys : List Str, d = .tup (sl ys) ∧ (∀ y ∈ ys, y ∈ hs) ∧ (spI hs ys).Pairwise (· < ·)
def difP (hs : List Str) (d : D) : Prop := ∃ ys : List Str, d = .tup (sl ys) ∧ (∀ y ∈ ys, y ∈ hs) ∧ ys.Nodup
theorem tup_sl {a b : List Str} (h : D.tup (sl a) = .tup (sl b)) : a = b := sl_inj.mp (D.tup.inj h)
theorem dif_iff {ys : List Str} (h : ∀ y ∈ ys, y ∈ hs) : difP hs (.tup (sl ys)) ↔ ys.Nodup :=
  ⟨fun ⟨zs, e, _, p⟩ => by rw [tup_sl e]; exact p, fun p => ⟨ys, rfl, h, p⟩⟩
theorem not_all_g {ds : List D} (h : ¬ ds.all (gB hs) = true) : ¬ lotP hs (.tup ds) ∧ ¬ difP hs (.tup ds) :=
  ⟨fun ⟨ys, e, hy, _⟩ => h (by rw [D.tup.inj e]; exact g_all hy), fun ⟨ys, e, hy, _⟩ => h (by rw [D.tup.inj e]; exact g_all hy)⟩
theorem not_tup {d : D} (h : isiD "tuple" d = some (.bl false)) : ¬ lotP hs d ∧ ¬ difP hs d :=
  ⟨fun ⟨ys, e, _⟩ => by rw [e] at h; exact absurd (show some (D.bl true) = some (D.bl false) from h) (fun z => by cases z), fun ⟨ys, e, _⟩ => by rw [e] at h; exact absurd (show some (D.bl true) = some (D.bl false) from h) (fun z => by cases z)⟩
theorem Th.tup {d : D} (h : Th d) : (∃ ds, d = .tup ds ∧ (∀ e ∈ ds, El e) ∧ ds.length ≤ 20) ∨ isiD "tuple" d = some (.bl false) := by
  rcases h with h | ⟨s, _, rfl⟩ | h
  · exact .inl h
  · exact .inr rfl
  · exact .inr h.1
theorem is_one_of_g {e : D} (he : El e) (oh : ∀ x ∈ hs, okS x) : m_is_one_of [e, .tup (sl hs)] = .ok (.bl (gB hs e)) := by
  have hb : m_is_one_of [e, .tup (sl hs)] = finP (b_is_one_of [some (.d e), some (.d (.tup (sl hs)))]) := rfl
  rw [hb]
  exact finR (st_ret (gB_at he oh rfl rfl))
theorem are_dif_ok {d : D} (h : Th d) (oh : ∀ x ∈ hs, okS x) : m_are_different [d, .tup (sl hs)] = .ok (.bl (decide (difP hs d))) := by
  rcases h.tup with ⟨ds, rfl, hd, hl⟩ | h
  · by_cases q : ds.all (gB hs) = true
    · obtain ⟨ys, rfl, hy⟩ := all_g q
      have hl' : (sl ys).length = ys.length := List.length_map ..
      rw [are_different_eq (fun x hx => oh x (hy x hx)) oh (by omega)]
      exact congrArg (fun b => RP.ok (.bl b)) (decide_eq_decide.mpr ⟨fun z => (dif_iff hy).mpr z.2, fun z => ⟨hy, (dif_iff hy).mp z⟩⟩)
    · have hb : m_are_different [.tup ds, .tup (sl hs)] = finP (b_are_different [some (.d (.tup ds)), some (.d (.tup (sl hs))), none]) := rfl
      rw [hb]
      have lc := at_lcm (E := [some (.d (.tup ds)), some (.d (.tup (sl hs))), none]) (it := mIter (mVar 0)) (tg := gV 2) (a := mCall m_is_one_of (mCons (mVar 2) (mCons (mVar 1) mNil))) (vs := [2]) (fun e : D => e) (fun e => [some (.d (.tup ds)), some (.d (.tup (sl hs))), some (.d e)]) ds (fun e => .bl (gB hs e))
        (by rw [List.map_id']; exact rfl) (by omega) rfl rfl fun e he => ⟨rfl, rfl, at_call (at_cons (m := mVar 2) rfl (at_1 (m := mVar 1) rfl)) (is_one_of_g (hd e he) oh)⟩
      have t := at_or (at_not (at_test (at_un (a := mVar 0) rfl (show isiD "tuple" (.tup ds) = some (.bl true) from rfl)))) fun _ => at_not (at_test (at_cb (at_1 lc) (v_all (gB hs) ds)))
      rw [Bool.eq_false_iff.mpr q] at t
      rw [decide_eq_false (not_all_g q).2]
      exact finR (st_stop (st_if t (fun _ => st_ret rfl) (fun z => nomatch z)))
  · have hb : m_are_different [d, .tup (sl hs)] = finP (b_are_different [some (.d d), some (.d (.tup (sl hs))), none]) := rfl
    rw [hb, decide_eq_false (not_tup h).2]
    exact finR (st_stop (st_if (at_or (v := false) (at_not (at_test (at_un (a := mVar 0) rfl h))) (fun z => nomatch z)) (fun _ => st_ret rfl) (fun z => nomatch z)))
end
end Mi
namespace Mi
open PySem DD
open Classical
def pairP (rs : List Str) (d : D) : Prop := ∃ a b, d = .tup [.str a, .str b] ∧ a ∈ rs ∧ b ∈ rs ∧ a ≠ b
section
variable {hs : List Str} {vs : List D}
theorem is_pair_iff {d : D} (h : Th d) (oh : ∀ x ∈ hs, okS x) : m_is_pair [.tup (sl hs), d] = .ok (.bl (decide (pairP hs d))) := by
  have hb : m_is_pair [.tup (sl hs), d] = finP (b_is_pair [some (.d (.tup (sl hs))), some (.d d)]) := rfl
  rw [hb]
  have c := at_call (E := [some (.d (.tup (sl hs))), some (.d d)]) (at_cons (m := mVar 1) rfl (at_1 (m := mVar 0) rfl)) (are_dif_ok h oh)
  by_cases q : difP hs d
  · rw [decide_eq_true q] at c
    obtain ⟨ys, rfl, hy, nd⟩ := q
    have t := at_andV c fun _ => at_op (at_cb (at_1 (m := mVar 1) rfl) (v_lenT (xs := sl ys))) (b := mC (.int 2)) rfl (eq_pl (d := .int (sl ys).length) (e := .int 2) rfl rfl)
    have hl : (sl ys).length = ys.length := List.length_map ..
    have e : (true && decide (D.int (sl ys).length = D.int 2)) = decide (pairP hs (.tup (sl ys))) := by
      rw [Bool.true_and]
      refine decide_eq_decide.mpr ⟨fun z => ?_, fun ⟨a, b, e, _⟩ => by rw [D.tup.inj e]; rfl⟩
      have z2 : ys.length = 2 := by injection z; omega
      obtain ⟨a, b, rfl⟩ : ∃ a b, ys = [a, b] := by
        match ys, z2 with
        | [a, b], _ => exact ⟨a, b, rfl⟩
      refine ⟨a, b, rfl, hy a (List.mem_cons_self ..), hy b (List.mem_cons_of_mem _ (List.mem_cons_self ..)), fun z => ?_⟩
      rw [z] at nd
      exact (List.nodup_cons.mp nd).1 (List.mem_cons_self ..)
    rw [e] at t
    exact finR (st_ret t)
  · rw [decide_eq_false q] at c
    have np : ¬ pairP hs d := fun ⟨a, b, e, m1, m2, ne⟩ => q ⟨[a, b], e, fun y hy => by
      rcases List.mem_cons.mp hy with rfl | hy
      · exact m1
      · rw [List.mem_singleton.mp hy]
        exact m2, by simp [ne]⟩
    rw [decide_eq_false np]
    exact finR (st_ret (at_andV (u := false) (v := false) c fun z => nomatch z))
end
end Mi
namespace Mi
open PySem DD
open Classical
end Mi
namespace Mi
open PySem DD
open Classical
theorem st_raise {E : DEnv} {C f : Str} {ms : MA} {ds : List D} (h : AtA E ms ds) : mRaise1 C f ms E = .exc ⟨C, [f], ds⟩ E := by
  unfold mRaise1
  rw [show ms E = _ from h, Rs.on_ok]
end Mi
namespace Mi
open PySem DD
open Classical
theorem st_setO {E : DEnv} {i : Nat} {mo : MO} {o : O} (h : mo E = .ok o E) (hi : i < E.length) : mSetO i mo E = .nx (E.set i (some o)) := by
  rw [e_setO, h, Rs.on_ok, if_pos hi]
theorem all_cons {P : D → Prop} {d : D} {ds : List D} (h : P d) (r : ∀ e ∈ ds, P e) : ∀ e ∈ d :: ds, P e := fun e he => by
  rcases List.mem_cons.mp he with rfl | he
  · exact h
  · exact r e he
theorem all_nil {P : D → Prop} : ∀ e ∈ ([] : List D), P e := fun e he => nomatch he
end Mi
namespace Mi
open PySem DD
section
variable {E E1 E2 : DEnv} {a b c mb : MD} {ms : MA} {x y z d r : D} {ds es es' xs : List D} {p q : MB} {u v w : Bool} {h : List D → RP} {C n m : Str} {i j : Nat} {s t : MS} {R : LO → Option D} {X : Exn} {ns : List Str} {idx : List Nat}
theorem lam_of (h : At E mb d) (hr : R (.ok d) = some r) : At E (mLam R mb) r := by
  show (mLam R mb) E = _
  unfold mLam
  rw [show mb E = _ from h]
  dsimp only
  rw [hr]
theorem lam_exc (h : mb E = .exc X E) (hr : R (.exc X) = some r) : At E (mLam R mb) r := by
  show (mLam R mb) E = _
  unfold mLam
  rw [h]
  dsimp only
  rw [hr]
theorem meth_x (hn : m ∉ ns) (h1 : At E a (.ins C ns ds)) (hm : AtA E ms es) (hf : h (.ins C ns ds :: es) = .exc X) : mMeth C m h a ms E = .exc X E := by
  unfold mMeth
  rw [show a E = _ from h1, Rs.bind_ok]
  show (if C = C ∧ m ∉ ns then _ else _) = _
  rw [if_pos ⟨rfl, hn⟩, show ms E = _ from hm, Rs.bind_ok]
  show (match h (.ins C ns ds :: es) with
    | .ok r => Rs.ok r E
    | .exc x => .exc x E
    | _ => .fail) = _
  rw [hf]
theorem methK_x (hn : m ∉ ns) (h1 : At E a (.ins C ns ds)) (hm : AtA E ms es) (hp : permL idx ([.ins C ns ds] ++ es) = es') (hf : h es' = .exc X) : mMethK C m h idx a ms E = .exc X E := by
  unfold mMethK
  rw [show a E = _ from h1, Rs.bind_ok]
  show (if C = C ∧ m ∉ ns then _ else _) = _
  rw [if_pos ⟨rfl, hn⟩, show ms E = _ from hm, Rs.bind_ok]
  show (match h (permL idx ([.ins C ns ds] ++ es)) with
    | .ok r => Rs.ok r E
    | .exc x => .exc x E
    | _ => .fail) = _
  rw [hp, hf]
theorem fin_x (h : s E = .exc X E1) : finP (mSeq s t E) = .exc X := by
  rw [e_seq, h]
  rfl
/-- the clauses -/
theorem hand_1 {C : Str} {i : Nat} {tab : List (Str × Bool)} {su : Exn → MD} {cs : List ClM} {e' : DEnv} (h1 : tab.lookup X.cls = some true) (h2 : freeAt E i = true) (h3 : su X E = .ok d e') : handX E X ((C, i, tab, su) :: cs) = .rt d e' := by
  show (match tab.lookup X.cls with
    | some true => if freeAt E i = true then (match su X E with
      | .ok d e' => RS.rt d e'
      | _ => RS.fail) else RS.fail
    | some false => handX E X cs
    | none => RS.fail) = _
  rw [h1]
  dsimp only
  rw [if_pos h2, h3]
theorem hand_2 {C : Str} {i : Nat} {tab : List (Str × Bool)} {su : Exn → MD} {cs : List ClM} (h1 : tab.lookup X.cls = some false) : handX E X ((C, i, tab, su) :: cs) = handX E X cs := by
  show (match tab.lookup X.cls with
    | some true => if freeAt E i = true then (match su X E with
      | .ok d e' => RS.rt d e'
      | _ => RS.fail) else RS.fail
    | some false => handX E X cs
    | none => RS.fail) = _
  rw [h1]
theorem lamR_x {N : Nat} {iF : Option Nat} {cs : List ClM} {rest : MS} {e : DEnv} (h : handX (List.replicate N none) X cs = .rt d e) : lamR N iF cs rest (.exc X) = some d := by
  show (match handX (List.replicate N none) X cs with
    | .rt r _ => some r
    | _ => none) = _
  rw [h]
theorem lamR_v {N i : Nat} {cs : List ClM} {rest : MS} {e : DEnv} (h : rest (gE N i x) = .rt d e) : lamR N (some i) cs rest (.ok x) = some d := by
  show (match rest (gE N i x) with
    | .rt r _ => some r
    | .nx _ => some .non
    | _ => none) = _
  rw [h]
theorem at_xf {f : Str} (h : (X.ns.zip X.ds).lookup f = some d) : At E (xfD X f) d := by
  show ofO ((X.ns.zip X.ds).lookup f) E = _
  rw [h]
  rfl
/-- draws: the frame changes at slot 0 alone -/
theorem draw1 {o : O} (j : Jar o) {mt : MD} {xs : List D} (h0 : E[0]? = some (some o)) (hm : At E mt (.lst xs)) (h1 : 0 < xs.length) (h2 : xs.length < 1000000) : ∃ (x : D) (o' : O), x ∈ xs ∧ Jar o' ∧ (mCallI 0 m_l_one_of (mCons mt mNil)) E = .ok x (E.set 0 (some o')) := one_at j h0 hm h1 (by omega)
theorem dset {d : D} (h : a E = .ok d E1) (hi : Nat.blt i E1.length = true := by rfl) : mSet i a E = .nx (E1.set i (some (.d d))) := by
  rw [e_set, h]
  rfl
theorem at_tupS (hm : AtA E ms ds) (hl : Nat.ble ds.length 1000 = true := by rfl) : At E (mTup ms) (.tup ds) := at_tup hm (Nat.le_of_ble_eq_true hl)
theorem at_lstS (hm : AtA E ms ds) (hl : Nat.ble ds.length 1000 = true := by rfl) : At E (mLst ms) (.lst ds) := at_lst hm (Nat.le_of_ble_eq_true hl)
theorem lstO_S (hm : AtA E ms ds) (hl : Nat.ble ds.length 1000 = true := by rfl) : mLstO ms E = .ok (oL ds) E := by
  rw [e_lstO, show ms E = _ from hm, Rs.bind_ok, size_e, if_pos (by
    have := Nat.le_of_ble_eq_true hl
    omega)]
theorem setO_S {mo : MO} {o : O} (h : mo E = .ok o E) (hi : Nat.blt i E.length = true := by rfl) : mSetO i mo E = .nx (E.set i (some o)) := st_setO h (by rwa [Nat.blt_eq] at hi)
theorem add_dr {xs ys : List D} (h : At E a (.lst xs)) (h2 : b E = .ok (.lst ys) E1) (hl : xs.length + ys.length ≤ 1000) : (mOp addD a b) E = .ok (.lst (xs ++ ys)) E1 := by
  rw [e_op, show a E = _ from h, Rs.bind_ok, h2, Rs.bind_ok, v_addL, size_e, if_pos (by omega)]
  rfl
open Classical in
theorem in_no {d : D} {es : List D} (h : plN 60 d = true) (he : es.all (plN 60) = true) (hm : d ∉ es) : inD d (.lst es) = some (.bl false) := by
  rw [in_plL h he]
  exact congrArg (fun b => some (D.bl b)) (decide_eq_false hm)
open Classical in
theorem ne_self {d : D} (h : plN 60 d = true) : neD d d = some (.bl false) := by
  rw [ne_pl h h]
  exact congrArg (fun b => some (D.bl b)) (decide_eq_false (fun z => z rfl))
open Classical in
theorem eq_self' {d : D} (h : plN 60 d = true) : eqD d d = some (.bl true) := by
  rw [eq_pl h h]
  exact congrArg (fun b => some (D.bl b)) (decide_eq_true rfl)
/-- owned lists of data, compared -/
theorem opL_at {f : D → D → Option D} (h1 : E[i]? = some (some (oL ds))) (h2 : At E b y) (hf : f (.lst ds) y = some (.bl u)) : At E (mOpL f i b) (.bl u) := by
  show (mOpL f i b) E = _
  unfold mOpL
  rw [h1]
  dsimp only
  rw [show b E = _ from h2, Rs.bind_ok, h1]
  dsimp only
  have e1 : noD (oL ds) = true := by
    show noDs (ds.map .d) = true
    clear h1 h2 hf
    induction ds with
    | nil => rfl
    | cons a r ih => exact ih
  have e2 : fz (oL ds) = .lst ds := by
    show D.lst (fzs (ds.map .d)) = _
    congr 1
    clear h1 h2 hf e1
    induction ds with
    | nil => rfl
    | cons a r ih =>
      show a :: fzs (r.map .d) = _
      rw [ih]
  rw [if_pos e1, e2, hf]
  rfl
end
end Mi
namespace Mi
open PySem DD
open Classical
section
variable {hs rs : List Str} {fs : List (List Str)} {ps : List (Str × Str)} {fr : D}
theorem Part.mono {B B' : Nat} {x : D} (h : Part B x) (le : B ≤ B') : Part B' x := by
  rcases h with ⟨vs, e, h1, h2⟩ | h
  · exact .inl ⟨vs, e, h1, by omega⟩
  · exact .inr h
end
end Mi
namespace Mi
open PySem DD
open Classical
end Mi
set_option maxHeartbeats 4000000
namespace Mi
open PySem DD
section
variable {hs : List Str} {fs : LL} {rs : List Str} {ps : List (Str × Str)} {cl : List Str} {s s' : RSt} {a : Str}
/-- who stands in a row has heard the house, unless it has ended -/
def Ons (s : RSt) : Prop := ∀ c h, finB s c = false → c ∈ rowOf s h → hrdB s c h = true
theorem Ons.take (H : Ons s) (S : SOk hs cl s) {e : Ev} (he : EvOk hs cl e) : Ons (takeS s e) := by
  cases e with
  | beg c => exact H
  | fin c =>
    intro x h q m
    rw [finB_fin] at q
    exact H x h (by cases z : finB s x with
      | false => rfl
      | true => rw [z] at q; cases q) m
  | rea c h =>
    obtain ⟨hc, hh⟩ := he
    intro x g q m
    have q' : finB s x = false := q
    rw [rowOf_rea S hh] at m
    unfold hrdB
    rw [ansOf_rea S hc]
    have old : x ∈ rowOf s g → decide (g ∈ ((if finB s c = false ∧ x = c then putA (ansOf s c) h (rowOf s h) else ansOf s x).map (·.1))) = true := fun m => by
      have k := of_decide_eq_true (H x g q' m)
      by_cases z : finB s c = false ∧ x = c
      · rw [if_pos z]
        refine decide_eq_true ((putA_keys g).mpr (.inl ?_))
        rw [← z.2]; exact k
      · rw [if_neg z]; exact decide_eq_true k
    by_cases w : g = h
    · rw [if_pos w] at m
      rcases List.mem_append.mp m with m | m
      · exact old (by rw [w]; exact m)
      · have e : x = c := List.mem_singleton.mp m
        rw [if_pos ⟨by rw [← e]; exact q', e⟩]
        exact decide_eq_true ((putA_keys g).mpr (.inr w))
    · rw [if_neg w] at m
      exact old m
/-- the row that a house has told, or would tell now -/
def nowR (s : RSt) (a h : Str) : List Str := if hrdB s a h = true then (getA (ansOf s a) h).getD [] else rowOf s h
structure Now (hs rs : List Str) (s : RSt) (a : Str) : Prop where
  nd : ∀ h ∈ hs, (nowR s a h).Nodup
  cl : ∀ h ∈ hs, ∀ x ∈ nowR s a h, x = "w" ∨ x ∈ rs
  no : ∀ h ∈ hs, a ∉ nowR s a h
structure Ends (hs : List Str) (fs : LL) (rs : List Str) (s : RSt) (a : Str) (vw : Vw) : Prop where
  view : View hs fs rs a vw
  hrd : ∀ h ∈ hs, hrdB s a h = true → h ∈ vw.map (·.1)
  now : ∀ p ∈ vw, ∃ t, p.2 = nowR s a p.1 ++ t ∧ (hrdB s a p.1 = true → t = [])
end
end Mi
namespace Mi
open PySem DD
end Mi
set_option maxHeartbeats 1000000
namespace Mi
open PySem DD
open L2 (Key)
section
variable {hs : List Str} {fs : LL} {rs : List Str} {ps : List (Str × Str)} {s : RSt} {a : Str} {evs : List Ev}
def freeH (hs : List Str) (s : RSt) (a : Str) : List Str := hs.filter fun h => !hrdB s a h
theorem at_place {E : DEnv} {m : MD} (w : At E m (runS hs fs rs ps evs s)) : At E (mProp "Run" m_Run_setting m) (settingD hs fs rs ps) := prop_at w run_place
theorem at_houses {E : DEnv} {m : MD} (w : At E m (settingD hs fs rs ps)) : At E (mFld "Setting" "houses" m) (.tup (sl hs)) := at_fldW w fld_houses
variable (F : Fr hs fs rs ps) (hw : ("w" : Str) ∉ rs) (ha : a ∈ rs) (S : SOk hs ("w" :: rs) s) (N : Now hs rs s a)
include F hw ha S
theorem heard_ok : m_Run_heard [runS hs fs rs ps evs s, .str a] = .ok (tS (hs.filter fun h => hrdB s a h)) := by
  have hc : a ∈ ("w" :: rs : List Str) := List.mem_cons_of_mem _ ha
  have hl := F.hl
  show finP (b_Run_heard [some (.d (runS hs fs rs ps evs s)), some (.d (.str a)), none]) = _
  unfold b_Run_heard
  have w0 : ∀ o, At [some (.d (runS hs fs rs ps evs s)), some (.d (.str a)), o] (mVar 0) (runS hs fs rs ps evs s) := fun _ => rfl
  have lc : At [some (.d (runS hs fs rs ps evs s)), some (.d (.str a)), none] (mLc (mIter (mFld "Setting" "houses" (mProp "Run" m_Run_setting (mVar 0)))) (gV 2) (mTest (mDInF true (mVar 2) (mDGet (mFld "State" "answers" (mFld "Run" "state" (mVar 0))) (mVar 1)))) (mVar 2) [2]) (.lst ((hs.filter fun h => hrdB s a h).map D.str)) :=
    at_lc D.str (fun h => [some (.d (runS hs fs rs ps evs s)), some (.d (.str a)), some (.d (.str h))]) hs _ D.str (at_iter (at_houses (at_place (w0 _))) rfl) (by omega) rfl rfl fun h hh =>
      ⟨rfl, rfl, at_test (at_din tS (st := h) rfl (at_dget (dD tS) (st := a) (at_fldW (at_fldW (w0 _) rf_state) sf_ans) rfl (ans_at S hc))), fun _ => rfl⟩
  exact finR (st_seq (client_at F hw hc (w0 _) rfl) (st_ret (at_cb (at_1 lc) v_tupL)))
theorem is_heard_ok {h : Str} (hh : h ∈ hs) : m_is_heard [runS hs fs rs ps evs s, .str a, .str h] = .ok (.bl (hrdB s a h)) := by
  obtain ⟨oh, or, op, of⟩ := oks F
  show finP (b_is_heard [some (.d (runS hs fs rs ps evs s)), some (.d (.str a)), some (.d (.str h))]) = _
  unfold b_is_heard
  have i : inD (.str h) (.tup (sl (hs.filter fun h => hrdB s a h))) = some (.bl (hrdB s a h)) := by
    rw [in_strT (oh h hh) (fun x hx => oh x (List.mem_filter.mp hx).1)]
    congr 2
    rw [Bool.eq_iff_iff, decide_eq_true_iff, List.mem_filter]
    exact ⟨fun q => q.2, fun q => ⟨hh, q⟩⟩
  have w0 : At [some (.d (runS hs fs rs ps evs s)), some (.d (.str a)), some (.d (.str h))] (mVar 0) (runS hs fs rs ps evs s) := rfl
  have m := at_meth (n := "heard") (ms := mCons (mVar 1) mNil) (es := [.str a]) (by decide +kernel) w0 rfl (heard_ok F hw ha S)
  exact finR (st_ret (at_op rfl m i))
theorem free_ok : m_free_houses [runS hs fs rs ps evs s, .str a] = .ok (.lst (sl (freeH hs s a))) := by
  have hl := F.hl
  show finP (b_free_houses [some (.d (runS hs fs rs ps evs s)), some (.d (.str a)), none]) = _
  unfold b_free_houses
  have w0 : ∀ o, At [some (.d (runS hs fs rs ps evs s)), some (.d (.str a)), o] (mVar 0) (runS hs fs rs ps evs s) := fun _ => rfl
  have lc : At [some (.d (runS hs fs rs ps evs s)), some (.d (.str a)), none] (mLc (mIter (mFld "Setting" "houses" (mProp "Run" m_Run_setting (mVar 0)))) (gV 2) (mNot (mTest (mCall m_is_heard (mCons (mVar 0) (mCons (mVar 1) (mCons (mVar 2) mNil)))))) (mVar 2) [2]) (.lst ((hs.filter fun h => !hrdB s a h).map D.str)) :=
    at_lc D.str (fun h => [some (.d (runS hs fs rs ps evs s)), some (.d (.str a)), some (.d (.str h))]) hs _ D.str (at_iter (at_houses (at_place (w0 _))) rfl) (by omega) rfl rfl fun h hh =>
      ⟨rfl, rfl, at_not (at_test (at_call (ds := [runS hs fs rs ps evs s, .str a, .str h]) rfl (is_heard_ok F hw ha S hh))), fun _ => rfl⟩
  exact finR (st_ret lc)
end
end Mi
set_option maxHeartbeats 4000000
namespace Mi
open PySem DD
end Mi
namespace Mi
open PySem DD
section
variable {hs : List Str} {fs : LL} {rs : List Str} {ps : List (Str × Str)} {cl : List Str} {s t s' : RSt} {evs : List Ev}
structure Eqv (s t : RSt) : Prop where
  r : ∀ h, rowOf s h = rowOf t h
  a : ∀ c, ansOf s c = ansOf t c
  b : ∀ c, begB s c = begB t c
  f : ∀ c, finB s c = finB t c
theorem Eqv.refl (s : RSt) : Eqv s s := ⟨fun _ => rfl, fun _ => rfl, fun _ => rfl, fun _ => rfl⟩
theorem Eqv.symm (A : Eqv s t) : Eqv t s := ⟨fun h => (A.r h).symm, fun h => (A.a h).symm, fun h => (A.b h).symm, fun h => (A.f h).symm⟩
theorem Eqv.hrd (A : Eqv s t) (c h : Str) : hrdB s c h = hrdB t c h := by unfold hrdB; rw [A.a]
theorem Eqv.take (A : Eqv s t) (S : SOk hs cl s) (T : SOk hs cl t) {e : Ev} (he : EvOk hs cl e) : Eqv (takeS s e) (takeS t e) := by
  cases e with
  | beg c => exact ⟨A.r, A.a, fun x => by rw [begB_beg, begB_beg, A.b], A.f⟩
  | fin c => exact ⟨A.r, A.a, A.b, fun x => by rw [finB_fin, finB_fin, A.f]⟩
  | rea c h =>
    obtain ⟨hc, hh⟩ := he
    exact ⟨fun g => by rw [rowOf_rea S hh, rowOf_rea T hh, A.r, A.r], fun x => by rw [ansOf_rea S hc, ansOf_rea T hc, A.f, A.a, A.a, A.r], A.b, A.f⟩
theorem Eqv.view (A : Eqv s t) (c : Str) : viewS hs s c = viewS hs t c := by
  unfold viewS
  have e : (hs.filter fun h => hrdB s c h) = hs.filter fun h => hrdB t c h := List.filter_congr fun g _ => by rw [A.hrd]
  rw [e, A.a]
end
end Mi
namespace Mi
open PySem DD
end Mi
set_option maxHeartbeats 1000000
namespace Mi
open PySem DD
/-- a name without blanks and line ends -/
def Cln (x : Str) : Prop := 10 ∉ TL.tl x ∧ 32 ∉ TL.tl x ∧ x.length ≤ 8 ∧ okS x
theorem menu_cln : ∀ x ∈ menu, Cln x := by
  have h : ∀ x ∈ menu, 10 ∉ TL.tl x ∧ 32 ∉ TL.tl x ∧ x.length ≤ 8 := by decide +kernel
  have h2 : ∀ x ∈ menu, PyData.canLay0 (.str x) = true := by decide +kernel
  exact fun x hx => ⟨(h x hx).1, (h x hx).2.1, (h x hx).2.2, h2 x hx⟩
end Mi
namespace Mi
open PySem DD
end Mi
namespace Mi
open PySem DD
open Classical
end Mi
namespace Mi
open PySem DD
open Classical
end Mi
namespace Mi
open PySem DD
open Classical
section
variable {hs : List Str} {fs : LL} {rs : List Str} {ps : List (Str × Str)}
theorem add_lst {a b : List D} (h : a.length + b.length ≤ 100000) : addD (.lst a) (.lst b) = some (.lst (a ++ b)) := by
  show (if a.length + b.length ≤ sizeLine then some (D.lst (a ++ b)) else none) = _
  rw [if_pos (by rw [size_e]; omega)]
end
end Mi
namespace Mi
open PySem DD
open Classical
theorem at_slL {E : DEnv} {a b : MD} {xs : List D} {k : Nat} (h1 : At E a (.lst xs)) (h2 : At E b (.int (k : Nat))) : At E (mSlice a mNoPart (mPart b)) (.lst (xs.take k)) := by
  show (mSlice _ _ _) E = _
  rw [e_slice, show a E = _ from h1, Rs.bind_ok, e_noPart, Rs.bind_ok, e_part, show b E = _ from h2, Rs.bind_ok, e_asI, Rs.bind_ok]
  show ofO (some (D.lst (cutD xs none (some (k : Int))))) E = _
  rw [v_cut0]
  rfl
end Mi
namespace Mi
open PySem DD
open Classical
section
variable {hs : List Str} {fs : LL} {rs : List Str} {ps : List (Str × Str)} {hs' : List Str} {fs' : LL} {rs' : List Str} {ps' : List (Str × Str)}
theorem str_at02 (F : Fr hs fs rs ps) (N : ShortN hs rs) {E : DEnv} {m : MD} (hm : At E m (settingD hs fs rs ps)) : At E (mStrI "Setting" m_Setting___str__ m) (.str (pageS hs fs rs ps)) := by
  show (mStrI _ _ _) E = _
  unfold mStrI
  rw [show m E = _ from hm, Rs.bind_ok]
  show (if ("Setting" : Str) = "Setting" then (match m_Setting___str__ [settingD hs fs rs ps] with
    | .ok (.str r) => Rs.ok (D.str r) E
    | _ => .fail) else .fail) = _
  rw [if_pos rfl, setting_str_ok F N]
end
abbrev S4 := List Str × LL × List Str × List (Str × Str)
end Mi
namespace Mi
open PySem DD
def k05p0 : MS := (mSet 1 (mCallI 0 m_l_frame (mCons (mC (.int 6)) (mCons (mC (.int 4)) mNil))))
def k05p1 : MS := (mSet 2 (mCall m_l_built (mCons (mVar 1) mNil)))
def k05p2 : MS := (mSet 3 (mStrI "Setting" m_Setting___str__ (mVar 2)))
def k05p3_0 : MS := (mSet 5 (mStep (mCallI 0 m_l_some_of (mCons (mOp getD (mVar 1) (mC (.int 0))) mNil)) mNoPart mNoPart (mPart (mOp subD (mC (.int 1)) (mOp mulD (mC (.int 2)) (mCallI 0 m_l_dip (mCons (mC (.int 2)) mNil)))))))
def k05p3_1 : MS := (mSet 6 (mLst (mCons (mC .non) (mCons (mC (.str "p")) (mCons (mCB listD (mCons (mVar 5) mNil)) (mCons (mC (.int 3)) (mCons (mFz mDNew) (mCons (mOp addD (mCB tupleD (mCons (mVar 5) mNil)) (mTup (mCons (mC (.int 3)) mNil))) (mCons (mOp addD (mTup (mCons (mC (.str "nobody")) mNil)) (mCB tupleD (mCons (mVar 5) mNil))) (mCons (mOp repTD (mCB tupleD (mCons (mVar 5) mNil)) (mC (.int 2))) (mCons (mTup (mCons (mC (.str "w")) mNil)) mNil)))))))))))
def k05p3_2 : MS := (mSet 5 (mIf (mTest (mOp gtD (mCallI 0 m_l_dip (mCons (mC (.int 3)) mNil)) (mC (.int 0)))) (mCB tupleD (mCons (mVar 5) mNil)) (mCallI 0 m_l_one_of (mCons (mVar 6) mNil))))
def k05p3_3 : MS := (mSet 7 (mCall m_l_falls_due (mCons (mVar 1) (mCons (mVar 5) mNil))))
def k05p3_4 : MS := (mSetO 8 (mLstO (mCons (mLam r_l_heard_4 (mMeth "Setting" "can_fall" m_Setting_can_fall_2 (mVar 2) (mCons (mVar 5) mNil))) mNil)))
def k05p3_5 : MS := (mApp 8 (mLam r_l_heard_4 (mMethK "Setting" "can_fall" m_Setting_can_fall_2 [0, 1] (mVar 2) (mCons (mVar 5) mNil))))
def k05p3_6 : MS := (mIfS (mTest (mOpL neD 8 (mLst (mCons (mVar 7) (mCons (mVar 7) mNil))))) (mRet (mC (.bl false))) mSkip)
def k05p3_7 : MS := (mIfS (mNot (mTest (mCallI 0 m_l_pair_right (mCons (mVar 1) (mCons (mVar 2) mNil))))) (mRet (mC (.bl false))) mSkip)
def k05p3_b : MS := (mSeq k05p3_0 (mSeq k05p3_1 (mSeq k05p3_2 (mSeq k05p3_3 (mSeq k05p3_4 (mSeq k05p3_5 (mSeq k05p3_6 k05p3_7)))))))
def k05p3 : MS := (mFor (mRng (mCons (mC (.int 8)) mNil)) (gV 4) k05p3_b)
def k05p4 : MS := (mRet (mOp eqD (mStrI "Setting" m_Setting___str__ (mVar 2)) (mVar 3)))
theorem k05p_eq : b_k05_l_right = (mSeq k05p0 (mSeq k05p1 (mSeq k05p2 (mSeq k05p3 k05p4)))) := rfl
def k05q0 : MS := (mSet 3 (mLst (mCons (mC .non) (mCons (mC (.str "a")) (mCons (mTup mNil) (mCons (mTup (mCons (mC (.str "a")) mNil)) (mCons (mLst (mCons (mC (.str "a")) (mCons (mC (.str "b")) mNil))) (mCons (mTup (mCons (mC (.int 3)) (mCons (mC (.int 4)) mNil))) (mCons (mFz mDNew) (mCons (mOp repTD (mTup (mCons (mOp getD (mOp getD (mVar 1) (mC (.int 2))) (mC (.int 0))) mNil)) (mC (.int 2))) (mCons (mTup (mCons (mOp getD (mOp getD (mVar 1) (mC (.int 0))) (mC (.int 0))) (mCons (mOp getD (mOp getD (mVar 1) (mC (.int 2))) (mC (.int 0))) mNil))) mNil)))))))))))
def k05q1 : MS := (mSet 4 (mCallI 0 m_l_one_of (mCons (mOp addD (mVar 3) (mLc (mRng (mCons (mC (.int 9)) mNil)) (gV 8) mYes (mTup (mCons (mCallI 0 m_l_one_of (mCons (mOp getD (mVar 1) (mC (.int 2))) mNil)) (mCons (mCallI 0 m_l_one_of (mCons (mOp getD (mVar 1) (mC (.int 2))) mNil)) mNil))) [8])) mNil)))
def k05q2 : MS := (mSet 5 (mAndV (mUn (isiD "tuple") (mVar 4)) (mAndV (mOp eqD (mCB lenD (mCons (mVar 4) mNil)) (mC (.int 2))) (mAndV (mOp inD (mOp getD (mVar 4) (mC (.int 0))) (mOp getD (mVar 1) (mC (.int 2)))) (mOp inD (mOp getD (mVar 4) (mC (.int 1))) (mOp getD (mVar 1) (mC (.int 2))))))))
def k05q3 : MS := (mSet 6 (mLst (mCons (mC (.str "promises")) (mCons (mCB reprED (mCons (mCB lenD (mCons (mOp getD (mVar 1) (mC (.int 3))) mNil)) mNil)) mNil))))
def k05q4 : MS := (mIfS (mAnd (mTest (mVar 5)) (mTest (mOp neD (mOp getD (mVar 4) (mC (.int 0))) (mOp getD (mVar 4) (mC (.int 1)))))) (mSet 6 (mLst (mCons (mC (.str "told")) (mCons (mStrI "Setting" m_Setting___str__ (mCall m_l_built (mCons (mOp addD (mSlice (mVar 1) mNoPart (mPart (mC (.int 3)))) (mLst (mCons (mOp addD (mOp getD (mVar 1) (mC (.int 3))) (mIf (mTest (mOp notInD (mVar 4) (mOp getD (mVar 1) (mC (.int 3))))) (mLst (mCons (mVar 4) mNil)) (mLst mNil))) mNil))) mNil))) mNil)))) mSkip)
def k05q5 : MS := (mSetO 7 (mLstO (mCons (mLam r_l_heard_4 (mMeth "Setting" "joined" m_Setting_joined (mVar 2) (mCons (mVar 4) mNil))) mNil)))
def k05q6 : MS := (mApp 7 (mLam r_l_heard_4 (mMethK "Setting" "joined" m_Setting_joined [0, 1] (mVar 2) (mCons (mVar 4) mNil))))
def k05q7 : MS := (mIfS (mTest (mOpL neD 7 (mLst (mCons (mVar 6) (mCons (mVar 6) mNil))))) (mRet (mC (.bl false))) mSkip)
def k05q8 : MS := (mSet 6 (mLst (mCons (mC (.str "name")) (mCons (mCB reprED (mCons (mVar 4) mNil)) mNil))))
def k05q9 : MS := (mIfS (mTest (mOp inXD (mVar 4) (mOp getD (mVar 1) (mC (.int 3))))) (mSet 6 (mLst (mCons (mC (.str "told")) (mCons (mStrI "Setting" m_Setting___str__ (mCall m_l_built (mCons (mOp addD (mSlice (mVar 1) mNoPart (mPart (mC (.int 3)))) (mLst (mCons (mLc (mIter (mOp getD (mVar 1) (mC (.int 3)))) (gV 9) (mTest (mOp neD (mVar 9) (mVar 4))) (mVar 9) [9]) mNil))) mNil))) mNil)))) mSkip)
def k05q10 : MS := (mSetO 7 (mLstO (mCons (mLam r_l_heard_4 (mMeth "Setting" "without" m_Setting_without_2 (mVar 2) (mCons (mVar 4) mNil))) mNil)))
def k05q11 : MS := (mApp 7 (mLam r_l_heard_4 (mMethK "Setting" "without" m_Setting_without_2 [0, 1] (mVar 2) (mCons (mVar 4) mNil))))
def k05q12 : MS := (mRet (mOpL eqD 7 (mLst (mCons (mVar 6) (mCons (mVar 6) mNil)))))
theorem k05q_eq : b_l_pair_right = (mSeq k05q0 (mSeq k05q1 (mSeq k05q2 (mSeq k05q3 (mSeq k05q4 (mSeq k05q5 (mSeq k05q6 (mSeq k05q7 (mSeq k05q8 (mSeq k05q9 (mSeq k05q10 (mSeq k05q11 k05q12)))))))))))) := rfl
end Mi
namespace Mi
open PySem DD
open Classical
def hX5 (d : D) : Exn := ⟨"InvalidHouses", ["index"], [d]⟩
def pX5 (d : D) : Exn := ⟨"InvalidPromises", ["index"], [d]⟩
def nX5 (d : D) : Exn := ⟨"UnknownName", ["given"], [d]⟩
def tf5 (b : Bool) : Str := if b then "True" else "False"
section
variable {hs : List Str} {fs : LL} {rs : List Str} {ps : List (Str × Str)} {E : DEnv} {x y d : D} {nm : List Str} {t : Str} {xs : List D}
theorem hd_h5 (hr : reprED [d] = some (.str t)) : r_l_heard_4 (.exc (hX5 d)) = some (.lst [.str "houses", .str t]) := by
  unfold r_l_heard_4
  exact lamR_x (hand_1 rfl rfl (at_lstS (at_cons rfl (at_1 (at_cb (at_1 (at_xf rfl)) hr)))))
theorem hd_p5 (hr : reprED [d] = some (.str t)) : r_l_heard_4 (.exc (pX5 d)) = some (.lst [.str "promises", .str t]) := by
  unfold r_l_heard_4
  exact lamR_x ((hand_2 rfl).trans (hand_1 rfl rfl (at_lstS (at_cons rfl (at_1 (at_cb (at_1 (at_xf rfl)) hr))))))
theorem hd_n5 (hr : reprED [d] = some (.str t)) : r_l_heard_4 (.exc (nX5 d)) = some (.lst [.str "name", .str t]) := by
  unfold r_l_heard_4
  exact lamR_x ((hand_2 rfl).trans ((hand_2 rfl).trans (hand_1 rfl rfl (at_lstS (at_cons rfl (at_1 (at_cb (at_1 (at_xf rfl)) hr)))))))
theorem strA_b {a : MD} {b : Bool} {C : Str} {f : List D → RP} (h : At E a (.bl b)) : At E (mStrA C f a) (.str (tf5 b)) := by
  show (mStrA C f a) E = _
  unfold mStrA
  rw [show a E = _ from h, Rs.bind_ok]
  rfl
theorem strA_s {a : MD} (F : Fr hs fs rs ps) (N : ShortN hs rs) (h : At E a (settingD hs fs rs ps)) : At E (mStrA "Setting" m_Setting___str__ a) (.str (pageS hs fs rs ps)) := by
  show (mStrA _ _ a) E = _
  unfold mStrA
  rw [show a E = _ from h, Rs.bind_ok]
  have s := setting_str_ok F N
  unfold settingD at s ⊢
  dsimp only
  rw [if_pos rfl, s]
theorem hd_b5 {b : Bool} : r_l_heard_4 (.ok (.bl b)) = some (.lst [.str "told", .str (tf5 b)]) := by
  unfold r_l_heard_4
  exact lamR_v (st_ret (at_lstS (at_cons rfl (at_1 (strA_b rfl)))))
theorem hd_s5 (F : Fr hs fs rs ps) (N : ShortN hs rs) : r_l_heard_4 (.ok (settingD hs fs rs ps)) = some (.lst [.str "told", .str (pageS hs fs rs ps)]) := by
  unfold r_l_heard_4
  exact lamR_v (st_ret (at_lstS (at_cons rfl (at_1 (strA_s F N rfl)))))
theorem enum_exc {body : MS} {a b : Nat} {f : Nat → Bool} {X : Nat → Exn} (E : Option O → Option O → DEnv) (hE : ∀ u v d (k : Nat), gT 2 (gVcons (gV a) (gVcons (gV b) gVnil)) (.tup [.int (k : Nat), d]) (E u v) = some (E (some (.d (.int (k : Nat)))) (some (.d d))))
    (xs : List D) (hb : ∀ (k : Nat) (d : D), xs[k]? = some d → (∀ j, j < k → f j = false) → body (E (some (.d (.int (k : Nat)))) (some (.d d))) = if f k = true then .exc (X k) (E (some (.d (.int (k : Nat)))) (some (.d d))) else .nx (E (some (.d (.int (k : Nat)))) (some (.d d)))) :
    ∀ (n k : Nat) (u v : Option O), k + n = xs.length → (∀ j, j < k → f j = false) → ∃ u' v', DD.forM (gT 2 (gVcons (gV a) (gVcons (gV b) gVnil))) body (enumL k (xs.drop k)) (E u v) = (match firstB f k n with
      | some i => .exc (X i) (E u' v')
      | none => .nx (E u' v'))
  | 0, k, u, v, hk, hf => by
    rw [List.drop_of_length_le (by omega)]
    exact ⟨u, v, rfl⟩
  | n + 1, k, u, v, hk, hf => by
    have hlt : k < xs.length := by omega
    rw [List.drop_eq_getElem_cons hlt]
    show ∃ u' v', DD.forM _ body (.tup [.int (k : Nat), xs[k]] :: enumL (k + 1) (xs.drop (k + 1))) (E u v) = _
    have h1 := hb k xs[k] (List.getElem?_eq_getElem hlt) hf
    by_cases q : f k = true
    · rw [if_pos q] at h1
      refine ⟨some (.d (.int (k : Nat))), some (.d xs[k]), ?_⟩
      unfold DD.forM firstB
      rw [hE]
      simp only [h1, if_pos q]
    · rw [if_neg q] at h1
      obtain ⟨u', v', h2⟩ := enum_exc E hE xs hb n (k + 1) (some (.d (.int (k : Nat)))) (some (.d xs[k])) (by omega) fun j hj => by
        by_cases e : j = k
        · rw [e]
          exact Bool.eq_false_iff.mpr q
        · exact hf j (by omega)
      refine ⟨u', v', ?_⟩
      unfold DD.forM firstB
      rw [hE]
      simp only [h1, if_neg q]
      exact h2
theorem enum_rt {body : MS} {a b : Nat} {f : Nat → Bool} {X : Nat → D} (E : Option O → Option O → DEnv) (hE : ∀ u v d (k : Nat), gT 2 (gVcons (gV a) (gVcons (gV b) gVnil)) (.tup [.int (k : Nat), d]) (E u v) = some (E (some (.d (.int (k : Nat)))) (some (.d d))))
    (xs : List D) (hb : ∀ (k : Nat) (d : D), xs[k]? = some d → (∀ j, j < k → f j = false) → body (E (some (.d (.int (k : Nat)))) (some (.d d))) = if f k = true then .rt (X k) (E (some (.d (.int (k : Nat)))) (some (.d d))) else .nx (E (some (.d (.int (k : Nat)))) (some (.d d)))) :
    ∀ (n k : Nat) (u v : Option O), k + n = xs.length → (∀ j, j < k → f j = false) → ∃ u' v', DD.forM (gT 2 (gVcons (gV a) (gVcons (gV b) gVnil))) body (enumL k (xs.drop k)) (E u v) = (match firstB f k n with
      | some i => .rt (X i) (E u' v')
      | none => .nx (E u' v'))
  | 0, k, u, v, hk, hf => by
    rw [List.drop_of_length_le (by omega)]
    exact ⟨u, v, rfl⟩
  | n + 1, k, u, v, hk, hf => by
    have hlt : k < xs.length := by omega
    rw [List.drop_eq_getElem_cons hlt]
    show ∃ u' v', DD.forM _ body (.tup [.int (k : Nat), xs[k]] :: enumL (k + 1) (xs.drop (k + 1))) (E u v) = _
    have h1 := hb k xs[k] (List.getElem?_eq_getElem hlt) hf
    by_cases q : f k = true
    · rw [if_pos q] at h1
      refine ⟨some (.d (.int (k : Nat))), some (.d xs[k]), ?_⟩
      unfold DD.forM firstB
      rw [hE]
      simp only [h1, if_pos q]
    · rw [if_neg q] at h1
      obtain ⟨u', v', h2⟩ := enum_rt E hE xs hb n (k + 1) (some (.d (.int (k : Nat)))) (some (.d xs[k])) (by omega) fun j hj => by
        by_cases e : j = k
        · rw [e]
          exact Bool.eq_false_iff.mpr q
        · exact hf j (by omega)
      refine ⟨u', v', ?_⟩
      unfold DD.forM firstB
      rw [hE]
      simp only [h1, if_neg q]
      exact h2
/-- a text or a number -/
def El5 (x : D) : Prop := (∃ c, x = .str c ∧ okS c) ∨ x = .int 3
/-- whether a thing is one of some names -/
def nm5 (nm : List Str) : D → Bool
  | .str c => decide (c ∈ nm)
  | _ => false
noncomputable def fH (hs : List Str) (xs : List D) (k : Nat) : Bool := !nm5 hs (xs[k]?.getD .non) || decide (xs[k]?.getD .non ∈ xs.take k)
theorem el5_pl (h : El5 x) : plN 60 x = true := by
  rcases h with ⟨c, rfl, o⟩ | rfl
  · exact okS_plN o
  · kernel_rfl
theorem one_of5 (h : El5 x) (on : ∀ c ∈ nm, okS c) : m_is_one_of [x, .tup (sl nm)] = .ok (.bl (nm5 nm x)) := by
  rcases h with ⟨c, rfl, oc⟩ | rfl
  · exact one_of_eq oc on
  · rfl
theorem take_pl (h : ∀ x ∈ xs, El5 x) {k : Nat} : (xs.take k).all (plN 60) = true := List.all_eq_true.mpr fun x hx => el5_pl (h x (List.mem_of_mem_take hx))
theorem cond_of {k : Nat} (h : ∀ x ∈ xs, El5 x) (hd : xs[k]? = some d) {p q : MB} (h1 : AtB E p (!nm5 hs d)) (h2 : nm5 hs d = true → AtB E q (decide (d ∈ xs.take k))) : AtB E (mOr p q) (fH hs xs k) := by
  have e : fH hs xs k = (!nm5 hs d || decide (d ∈ xs.take k)) := by
    unfold fH
    rw [hd, Option.getD_some]
  rw [e]
  exact at_or h1 fun z => h2 (by simpa using z)
theorem strs_of (h : ∀ j, j < xs.length → fH hs xs j = false) : ∃ ys : List Str, xs = sl ys ∧ ∀ y ∈ ys, y ∈ hs := by
  have key : ∀ x ∈ xs, ∃ c, x = .str c ∧ c ∈ hs := fun x hx => by
    obtain ⟨k, hk, e⟩ := List.getElem_of_mem hx
    have := h k hk
    unfold fH at this
    rw [List.getElem?_eq_getElem hk, Option.getD_some, e] at this
    have n : nm5 hs x = true := by
      cases z : nm5 hs x with
      | true => rfl
      | false => rw [z] at this; cases this
    cases x with
    | str c => exact ⟨c, rfl, of_decide_eq_true n⟩
    | _ => cases n
  clear h
  induction xs with
  | nil => exact ⟨[], rfl, fun y hy => by cases hy⟩
  | cons x xs ih =>
    obtain ⟨c, rfl, hc⟩ := key x List.mem_cons_self
    obtain ⟨ys, rfl, hy⟩ := ih fun z hz => key z (List.mem_cons_of_mem _ hz)
    refine ⟨c :: ys, rfl, fun y h => ?_⟩
    rcases List.mem_cons.mp h with rfl | h
    · exact hc
    · exact hy y h
theorem repr_int5 {k : Nat} (hk : k < 1000000) : ∃ t, reprED [.int (k : Nat)] = some (.str t) ∧ okS t := repr_some (d := .int (k : Nat)) (decide_eq_true (Nat.lt_of_lt_of_le (show (k : Int).natAbs < 1000000 by omega) (by decide +kernel))) (by show 200 ≤ 200000; omega)
theorem notIn5 {c : Str} (oc : okS c) (on : ∀ x ∈ nm, okS x) : notInD (.str c) (.lst (sl nm)) = some (.bl (!nm5 nm (.str c))) := by
  have := in_strL oc on
  unfold inD at this
  unfold notInD
  cases h : inB (.str c) (.lst (sl nm)) with
  | none => rw [h] at this; cases this
  | some b =>
    rw [h] at this
    have e : b = decide (c ∈ nm) := by injection (Option.some.inj this)
    subst e
    rfl
theorem can_fall5 (F : Fr hs fs rs ps) (h : ∀ x ∈ xs, El5 x) (hl : xs.length ≤ 1000) :
    (∃ i : Nat, i < 1000 ∧ firstB (fH hs xs) 0 xs.length = some i ∧ m_Setting_can_fall_2 [settingD hs fs rs ps, .tup xs] = .exc (hX5 (.int (i : Nat))) ∧ ∀ t, reprED [.int (i : Nat)] = some (.str t) → m_l_falls_due [frameD hs fs rs ps, .tup xs] = .ok (.lst [.str "houses", .str t])) ∨
    (∃ b, m_Setting_can_fall_2 [settingD hs fs rs ps, .tup xs] = .ok (.bl b) ∧ m_l_falls_due [frameD hs fs rs ps, .tup xs] = .ok (.lst [.str "told", .str (tf5 b)])) := by
  obtain ⟨oh, _, _, of⟩ := oks F
  have e1 : m_Setting_can_fall_2 [settingD hs fs rs ps, .tup xs] = finP (b_Setting_can_fall_2 [some (.d (settingD hs fs rs ps)), some (.d (.tup xs)), none, none]) := rfl
  have e2 : m_l_falls_due [frameD hs fs rs ps, .tup xs] = finP (b_l_falls_due [some (.d (frameD hs fs rs ps)), some (.d (.tup xs)), none, none]) := rfl
  obtain ⟨u1, v1, l1⟩ := enum_exc (f := fH hs xs) (X := fun k => hX5 (.int (k : Nat))) (a := 2) (b := 3) (body := (mIfS (mOr (mNot (mTest (mCall m_is_one_of (mCons (mVar 3) (mCons (mFld "Setting" "houses" (mVar 0)) mNil))))) (mTest (mOp inD (mVar 3) (mSlice (mVar 1) mNoPart (mPart (mVar 2)))))) (mRaise1 "InvalidHouses" "index" (mCons (mVar 2) mNil)) mSkip)) (fun u v => [some (.d (settingD hs fs rs ps)), some (.d (.tup xs)), u, v]) (fun _ _ _ _ => rfl) xs (fun k d hd _ => by
      have ed := h d (List.mem_of_getElem? hd)
      refine st_if (cond_of h hd (at_not (at_test (at_call (at_cons (m := mVar 3) rfl (at_1 (at_fldW (a := mVar 0) rfl fld_houses))) (one_of5 ed oh)))) fun _ => at_test (at_op (a := mVar 3) rfl (at_sliceT (a := mVar 1) (b := mVar 2) rfl rfl) (in_plT (el5_pl ed) (take_pl h)))) (fun z => ?_) fun z => ?_
      · rw [z, if_pos rfl]
        exact st_raise (at_1 (m := mVar 2) rfl)
      · rw [z, if_neg Bool.false_ne_true]
        rfl) xs.length 0 none none (by omega) (fun j hj => absurd hj (Nat.not_lt_zero _))
  obtain ⟨u2, v2, l2⟩ : ∃ u' v', DD.forM (gT 2 (gVcons (gV 2) (gVcons (gV 3) gVnil))) (mIfS (mOr (mNot (mTest (mUn (isiD "str") (mVar 3)))) (mOr (mTest (mOp notInD (mVar 3) (mOp getD (mVar 0) (mC (.int 0))))) (mTest (mOp inD (mVar 3) (mSlice (mVar 1) mNoPart (mPart (mVar 2))))))) (mRet (mLst (mCons (mC (.str "houses")) (mCons (mCB reprED (mCons (mVar 2) mNil)) mNil)))) mSkip)
      (enumL 0 xs) [some (.d (frameD hs fs rs ps)), some (.d (.tup xs)), none, none] = (match firstB (fH hs xs) 0 xs.length with
      | some i => .rt (.lst [.str "houses", (reprED [.int (i : Nat)]).getD .non]) [some (.d (frameD hs fs rs ps)), some (.d (.tup xs)), u', v']
      | none => .nx [some (.d (frameD hs fs rs ps)), some (.d (.tup xs)), u', v']) := by
    have key : ∀ i : Nat, i < xs.length → At [some (.d (frameD hs fs rs ps)), some (.d (.tup xs)), some (.d (.int (i : Nat))), none] (mVar 2) (.int (i : Nat)) := fun _ _ => rfl
    refine enum_rt (f := fH hs xs) (X := fun i => .lst [.str "houses", (reprED [.int (i : Nat)]).getD .non]) (fun u v => [some (.d (frameD hs fs rs ps)), some (.d (.tup xs)), u, v]) (fun _ _ _ _ => rfl) xs (fun k d hd _ => ?_) xs.length 0 none none (by omega) (fun j hj => absurd hj (Nat.not_lt_zero _))
    have ed := h d (List.mem_of_getElem? hd)
    have hk : k < xs.length := (List.getElem?_eq_some_iff.mp hd).1
    have g0 : getD (frameD hs fs rs ps) (.int 0) = some (.lst (sl hs)) := by simp [frameD]
    obtain ⟨t, ht, _⟩ := repr_int5 (k := k) (by omega)
    have e : fH hs xs k = (!nm5 hs d || decide (d ∈ xs.take k)) := by
      unfold fH
      rw [hd, Option.getD_some]
    have T : AtB [some (.d (frameD hs fs rs ps)), some (.d (.tup xs)), some (.d (.int (k : Nat))), some (.d d)] (mOr (mNot (mTest (mUn (isiD "str") (mVar 3)))) (mOr (mTest (mOp notInD (mVar 3) (mOp getD (mVar 0) (mC (.int 0))))) (mTest (mOp inD (mVar 3) (mSlice (mVar 1) mNoPart (mPart (mVar 2))))))) (fH hs xs k) := by
      rw [e]
      rcases ed with ⟨c, rfl, oc⟩ | rfl
      · have a := at_or (E := [some (.d (frameD hs fs rs ps)), some (.d (.tup xs)), some (.d (.int (k : Nat))), some (.d (.str c))]) (u := false) (v := !nm5 hs (.str c) || decide (D.str c ∈ xs.take k)) (at_not (u := true) (at_test (at_un (a := mVar 3) (f := isiD "str") rfl rfl))) fun _ => at_or (at_test (at_op (a := mVar 3) rfl (at_op (a := mVar 0) (b := mC (.int 0)) rfl rfl g0) (notIn5 oc oh))) fun _ => at_test (at_op (a := mVar 3) rfl (at_sliceT (a := mVar 1) (b := mVar 2) rfl rfl) (in_plT (okS_plN oc) (take_pl h)))
        rw [Bool.false_or] at a
        exact a
      · exact at_or (u := true) (v := false) (at_not (u := false) (at_test (at_un (a := mVar 3) (f := isiD "str") rfl rfl))) fun z => nomatch z
    refine st_if T (fun z => ?_) fun z => ?_
    · rw [z, if_pos rfl, ht]
      exact st_ret (at_lstS (at_cons rfl (at_1 (at_cb (at_1 (m := mVar 2) rfl) ht))))
    · rw [z, if_neg Bool.false_ne_true]
      rfl
  rw [e1, e2]
  unfold b_Setting_can_fall_2 b_l_falls_due
  have i1 : AtB [some (.d (settingD hs fs rs ps)), some (.d (.tup xs)), none, none] (mNot (mTest (mUn (isiD "tuple") (mVar 1)))) false := at_not (u := true) (at_test (at_un (a := mVar 1) (f := isiD "tuple") rfl rfl))
  have i2 : AtB [some (.d (frameD hs fs rs ps)), some (.d (.tup xs)), none, none] (mNot (mTest (mUn (isiD "tuple") (mVar 1)))) false := at_not (u := true) (at_test (at_un (a := mVar 1) (f := isiD "tuple") rfl rfl))
  cases q : firstB (fH hs xs) 0 xs.length with
  | some i =>
    have hi : i < xs.length := by have := firstB_lt q; omega
    rw [q] at l1 l2
    dsimp only at l1 l2
    refine .inl ⟨i, by omega, rfl, ?_, fun t ht => ?_⟩
    · rw [e_seq, st_ifF i1, andThen_nx, e_seq, st_for (it := mEnum (mVar 1)) (l := enumL 0 xs) rfl l1]
      rfl
    · rw [ht] at l2
      rw [e_seq, st_ifF i2, andThen_nx, e_seq, st_for (it := mEnum (mVar 1)) (l := enumL 0 xs) rfl l2]
      rfl
  | none =>
    rw [q] at l1 l2
    obtain ⟨ys, rfl, hy⟩ := strs_of fun j hj => firstB_none q j (Nat.zero_le _) (by omega)
    have hl' : ys.length ≤ 1000 := by
      have : (sl ys).length = ys.length := List.length_map ..
      omega
    have fl := F.fl
    have g1 := may_fall_ok (hs := hs) (fs := fs) (rs := rs) (ps := ps) (l := ys) (x := .tup (sl ys)) (fun y h => oh y (hy y h)) of (by omega) (by omega) rfl
    have g2 := l_falls_ok (hs := hs) (fs := fs) (rs := rs) (ps := ps) (l := ys) (x := .tup (sl ys)) (fun y h => oh y (hy y h)) of (by omega) (by omega) rfl
    refine .inr ⟨falls fs ys, ?_, ?_⟩
    · rw [e_seq, st_ifF i1, andThen_nx, e_seq, st_for (it := mEnum (mVar 1)) (l := enumL 0 (sl ys)) rfl l1, andThen_nx]
      exact finR (st_ret (at_call (at_cons (m := mVar 0) rfl (at_1 (m := mVar 1) rfl)) g1))
    · rw [e_seq, st_ifF i2, andThen_nx, e_seq, st_for (it := mEnum (mVar 1)) (l := enumL 0 (sl ys)) rfl l2, andThen_nx]
      exact finR (st_ret (at_lstS (at_cons rfl (at_1 (at_cb (at_1 (at_call (at_cons (m := mVar 0) rfl (at_1 (m := mVar 1) rfl)) g2)) v_strB)))))
/-- what is told of a set of houses, and what is due -/
theorem ask_h5 (F : Fr hs fs rs ps) (h : isiD "tuple" x = some (.bl false) ∨ ∃ xs, x = .tup xs ∧ (∀ e ∈ xs, El5 e) ∧ xs.length ≤ 1000) :
    ∃ t u, okS t ∧ okS u ∧ m_l_falls_due [frameD hs fs rs ps, x] = .ok (.lst [.str t, .str u]) ∧ ∀ (E : DEnv) (a b : MD), At E a (settingD hs fs rs ps) → At E b x →
      At E (mLam r_l_heard_4 (mMeth "Setting" "can_fall" m_Setting_can_fall_2 a (mCons b mNil))) (.lst [.str t, .str u]) ∧ At E (mLam r_l_heard_4 (mMethK "Setting" "can_fall" m_Setting_can_fall_2 [0, 1] a (mCons b mNil))) (.lst [.str t, .str u]) := by
  have hn : ("can_fall" : Str) ∉ (["houses", "fails", "readers", "promises"] : List Str) := by decide +kernel
  have fin_exc : ∀ {d : D} {u : Str}, m_Setting_can_fall_2 [settingD hs fs rs ps, x] = .exc (hX5 d) → reprED [d] = some (.str u) → ∀ (E : DEnv) (a b : MD), At E a (settingD hs fs rs ps) → At E b x →
      At E (mLam r_l_heard_4 (mMeth "Setting" "can_fall" m_Setting_can_fall_2 a (mCons b mNil))) (.lst [.str "houses", .str u]) ∧ At E (mLam r_l_heard_4 (mMethK "Setting" "can_fall" m_Setting_can_fall_2 [0, 1] a (mCons b mNil))) (.lst [.str "houses", .str u]) := fun h1 h2 E a b ha hb =>
    ⟨lam_exc (meth_x hn ha (at_1 hb) h1) (hd_h5 h2), lam_exc (methK_x hn ha (at_1 hb) rfl h1) (hd_h5 h2)⟩
  rcases h with h | ⟨xs, rfl, he, hl⟩
  · refine ⟨"houses", "None", by decide +kernel, by decide +kernel, ?_, fin_exc (d := .non) ?_ rfl⟩
    · show finP (b_l_falls_due [some (.d (frameD hs fs rs ps)), some (.d x), none, none]) = _
      unfold b_l_falls_due
      exact finR (st_stop (st_if (at_not (u := false) (at_test (at_un (a := mVar 1) rfl h))) (fun _ => st_ret (at_lstS (at_cons rfl (at_1 rfl)))) fun z => nomatch z))
    · show finP (b_Setting_can_fall_2 [some (.d (settingD hs fs rs ps)), some (.d x), none, none]) = _
      unfold b_Setting_can_fall_2
      exact fin_x (st_if (at_not (u := false) (at_test (at_un (a := mVar 1) rfl h))) (fun _ => st_raise (at_1 (m := mC .non) rfl)) fun z => nomatch z)
  · rcases can_fall5 F he hl with ⟨i, hi, _, h1, h2⟩ | ⟨b, h1, h2⟩
    · obtain ⟨u, hu, ou⟩ := repr_int5 (k := i) (by omega)
      exact ⟨"houses", u, by decide +kernel, ou, h2 u hu, fin_exc h1 hu⟩
    · refine ⟨"told", tf5 b, by decide +kernel, by cases b <;> decide +kernel, h2, fun E a c ha hb => ⟨lam_of (meth_atN hn ha (at_1 hb) h1) hd_b5, lam_of (methK_at hn ha (at_1 hb) rfl h1) hd_b5⟩⟩
end
end Mi
namespace Mi
open PySem DD
open Classical
section
variable {hs : List Str} {fs : LL} {rs : List Str} {ps : List (Str × Str)} {E : DEnv} {x y d : D} {nm : List Str} {t : Str} {xs ds es : List D} {a b : Str}
theorem make5 {ms : MA} (F : Fr hs fs rs ps) (h : AtA E ms [.tup (sl hs), .tup (tl fs), .tup (sl rs), .tup (pl ps)]) : At E (mFz (mMake "Setting" m_Setting_init ms)) (settingD hs fs rs ps) := by
  show (mFz _) E = _
  unfold mFz mMake
  rw [show ms E = _ from h, Rs.bind_ok, init_ok F]
  rfl
theorem star5 {c : MD} {ms : MA} (h1 : At E c (.tup ds)) (h2 : AtA E ms es) : AtA E (mStar c ms) (ds ++ es) := by
  show (mStar c ms) E = _
  rw [e_star, show c E = _ from h1, Rs.bind_ok]
  dsimp only
  rw [show ms E = _ from h2, Rs.bind_ok]
theorem pl_len : (pl ps).length = ps.length := List.length_map ..
theorem fr_len (F : Fr hs fs rs ps) : ps.length ≤ 25 := ps_len5 F
theorem fr_add (F : Fr hs fs rs ps) (ha : a ∈ rs) (hb : b ∈ rs) (hne : a ≠ b) (hn : (a, b) ∉ ps) : Fr hs fs rs (ps ++ [(a, b)]) :=
  { F with
    pm := fun p hp => by
      rcases List.mem_append.mp hp with h | h
      · exact F.pm p h
      · rw [List.mem_singleton.mp h]
        exact ⟨ha, hb, hne⟩
    ndp := List.nodup_append.mpr ⟨F.ndp, List.nodup_cons.mpr ⟨List.not_mem_nil, List.nodup_nil⟩, fun p hp q hq e => by
      rw [List.mem_singleton.mp hq] at e
      rw [e] at hp
      exact hn hp⟩ }
theorem fr_del (F : Fr hs fs rs ps) (f : Str × Str → Bool) : Fr hs fs rs (ps.filter f) :=
  { F with
    pm := fun p hp => F.pm p (List.mem_filter.mp hp).1
    ndp := F.ndp.filter f }
def prD (a b : Str) : D := .tup [.str a, .str b]
theorem mem_pl : prD a b ∈ pl ps ↔ (a, b) ∈ ps := by
  unfold prD pl
  rw [List.mem_map]
  constructor
  · rintro ⟨⟨c, d⟩, h, e⟩
    injection e with e
    injection e with e1 e2
    injection e1 with e1
    injection e2 with e2
    injection e2 with e2
    cases e1
    cases e2
    exact h
  · intro h
    exact ⟨(a, b), h, rfl⟩
theorem prD_pl (oa : okS a) (ob : okS b) : plN 60 (prD a b) = true := by
  show (List.all [D.str a, D.str b] (plN 59)) = true
  simp only [List.all_cons, List.all_nil, Bool.and_true, Bool.and_eq_true]
  exact ⟨okS_plN oa, okS_plN ob⟩
theorem pls (F : Fr hs fs rs ps) : (pl ps).all (plN 60) = true := pl_pl (oks F).2.2.1
theorem in_prT (F : Fr hs fs rs ps) (oa : okS a) (ob : okS b) : inD (prD a b) (.tup (pl ps)) = some (.bl (decide ((a, b) ∈ ps))) := by
  rw [in_plT (prD_pl oa ob) (pls F)]
  exact congrArg (fun b => some (D.bl b)) (decide_eq_decide.mpr mem_pl)
theorem notin_prT (F : Fr hs fs rs ps) (oa : okS a) (ob : okS b) : notInD (prD a b) (.tup (pl ps)) = some (.bl (!decide ((a, b) ∈ ps))) := by
  have := in_prT F oa ob
  unfold inD at this
  unfold notInD
  cases h : inB (prD a b) (.tup (pl ps)) with
  | none => rw [h] at this; cases this
  | some c =>
    rw [h] at this
    have e : c = decide ((a, b) ∈ ps) := by injection (Option.some.inj this)
    subst e
    rfl
theorem joined_no (h : m_is_pair [.tup (sl rs), d] = .ok (.bl false)) : m_Setting_joined [settingD hs fs rs ps, d] = .exc (pX5 (.int (ps.length : Nat))) := by
  show finP (b_Setting_joined [some (.d (settingD hs fs rs ps)), some (.d d)]) = _
  unfold b_Setting_joined
  refine fin_x (E1 := [some (.d (settingD hs fs rs ps)), some (.d d)]) (st_if (u := true) (at_not (at_test (at_call (at_cons (at_fldW (a := mVar 0) rfl fld_readers) (at_1 (m := mVar 1) rfl)) h))) (fun _ => ?_) fun z => nomatch z)
  have := st_raise (C := "InvalidPromises") (f := "index") (at_1 (at_cb (E := [some (.d (settingD hs fs rs ps)), some (.d d)]) (at_1 (at_fldW (a := mVar 0) rfl fld_promises)) v_lenT))
  rw [pl_len] at this
  exact this
theorem joined_yes (F : Fr hs fs rs ps) (ha : a ∈ rs) (hb : b ∈ rs) (hne : a ≠ b) : m_Setting_joined [settingD hs fs rs ps, prD a b] = .ok (settingD hs fs rs (if (a, b) ∈ ps then ps else ps ++ [(a, b)])) := by
  have ors := (oks F).2.1
  show finP (b_Setting_joined [some (.d (settingD hs fs rs ps)), some (.d (prD a b))]) = _
  unfold b_Setting_joined
  have i1 : AtB [some (.d (settingD hs fs rs ps)), some (.d (prD a b))] (mNot (mTest (mCall m_is_pair (mCons (mFld "Setting" "readers" (mVar 0)) (mCons (mVar 1) mNil))))) false := at_not (u := true) (at_test (at_call (at_cons (at_fldW (a := mVar 0) rfl fld_readers) (at_1 (m := mVar 1) rfl)) (is_pair_ok ors ha hb hne)))
  have i2 := at_test (at_op (E := [some (.d (settingD hs fs rs ps)), some (.d (prD a b))]) (a := mVar 1) rfl (at_fldW (a := mVar 0) rfl fld_promises) (in_prT F (ors a ha) (ors b hb)))
  rw [e_seq, st_ifF i1, andThen_nx]
  by_cases q : (a, b) ∈ ps
  · rw [if_pos q]
    rw [decide_eq_true q] at i2
    exact finR (st_stop (st_if i2 (fun _ => st_ret (a := mVar 0) rfl) fun z => nomatch z))
  · rw [if_neg q]
    rw [decide_eq_false q] at i2
    rw [e_seq, st_ifF i2, andThen_nx]
    have hl := fr_len F
    refine finR (st_ret (make5 (fr_add F ha hb hne q) (at_cons (at_fldW (a := mVar 0) rfl fld_houses) (at_cons (at_fldW (a := mVar 0) rfl fld_fails) (at_cons (at_fldW (a := mVar 0) rfl fld_readers) (at_1 ?_))))))
    have e : pl (ps ++ [(a, b)]) = pl ps ++ [prD a b] := by
      unfold pl
      rw [List.map_append]
      rfl
    rw [e]
    exact at_tup (star5 (at_fldW (a := mVar 0) rfl fld_promises) (at_1 (m := mVar 1) rfl)) (by
      rw [List.length_append, pl_len]
      simp
      omega)
theorem without_no (h : m_is_pair [.tup (sl rs), d] = .ok (.bl false)) : m_Setting_without_2 [settingD hs fs rs ps, d] = .exc (nX5 d) := by
  show finP (b_Setting_without_2 [some (.d (settingD hs fs rs ps)), some (.d d), none, none]) = _
  unfold b_Setting_without_2
  exact fin_x (st_if (u := true) (at_or (u := true) (v := false) (at_not (u := false) (at_test (at_call (at_cons (at_fldW (a := mVar 0) rfl fld_readers) (at_1 (m := mVar 1) rfl)) h))) fun z => nomatch z) (fun _ => st_raise (at_1 (m := mVar 1) rfl)) fun z => nomatch z)
theorem without_pair (F : Fr hs fs rs ps) (ha : a ∈ rs) (hb : b ∈ rs) (hne : a ≠ b) : m_Setting_without_2 [settingD hs fs rs ps, prD a b] = if (a, b) ∈ ps then .ok (settingD hs fs rs (ps.filter fun p => decide (p ≠ (a, b)))) else .exc (nX5 (prD a b)) := by
  have ors := (oks F).2.1
  have oa := ors a ha
  have ob := ors b hb
  show finP (b_Setting_without_2 [some (.d (settingD hs fs rs ps)), some (.d (prD a b)), none, none]) = _
  unfold b_Setting_without_2
  have i1 := at_or (u := false) (at_not (u := true) (at_test (at_call (at_cons (E := [some (.d (settingD hs fs rs ps)), some (.d (prD a b)), none, none]) (at_fldW (a := mVar 0) rfl fld_readers) (at_1 (m := mVar 1) rfl)) (is_pair_ok ors ha hb hne)))) fun _ => at_test (at_op (a := mVar 1) rfl (at_fldW (a := mVar 0) rfl fld_promises) (notin_prT F oa ob))
  rw [Bool.false_or] at i1
  by_cases q : (a, b) ∈ ps
  · rw [if_pos q]
    rw [decide_eq_true q] at i1
    rw [e_seq, st_ifF i1, andThen_nx]
    have hl := fr_len F
    have lc := at_lc (E := [some (.d (settingD hs fs rs ps)), some (.d (prD a b)), none, none]) (it := mIter (mFld "Setting" "promises" (mVar 0))) (tg := gV 3) (p := mTest (mOp neD (mVar 3) (mVar 1))) (a := mVar 3) (vs := [3]) (fun p : Str × Str => prD p.1 p.2) (fun p => [some (.d (settingD hs fs rs ps)), some (.d (prD a b)), none, some (.d (prD p.1 p.2))]) ps (fun p => decide (p ≠ (a, b))) (fun p => prD p.1 p.2)
      (at_iter (at_fldW (a := mVar 0) rfl fld_promises) rfl) (by omega) rfl rfl fun p hp => by
        obtain ⟨m1, m2, _⟩ := F.pm p hp
        refine ⟨rfl, rfl, at_test (at_op (a := mVar 3) (b := mVar 1) rfl rfl ?_), fun _ => rfl⟩
        rw [ne_pl (prD_pl (ors _ m1) (ors _ m2)) (prD_pl oa ob)]
        refine congrArg (fun b => some (D.bl b)) (decide_eq_decide.mpr (not_congr ⟨fun e => ?_, fun e => by rw [e]⟩))
        unfold prD at e
        injection e with e
        injection e with e1 e2
        injection e1 with e1
        injection e2 with e2
        injection e2 with e2
        exact Prod.ext e1 e2
    have s2 := st_set (i := 2) (at_cb (at_1 lc) (g := tupleD) rfl)
    rw [e_seq, s2, andThen_nx]
    exact finR (st_ret (make5 (fr_del F _) (at_cons (at_fldW (a := mVar 0) rfl fld_houses) (at_cons (at_fldW (a := mVar 0) rfl fld_fails) (at_cons (at_fldW (a := mVar 0) rfl fld_readers) (at_1 (m := mVar 2) rfl))))))
  · rw [if_neg q]
    rw [decide_eq_false q] at i1
    exact fin_x (st_if (u := true) i1 (fun _ => st_raise (at_1 (m := mVar 1) rfl)) fun z => nomatch z)
end
end Mi
namespace Mi
open PySem DD
open Classical
def eQ5 (o : O) (hs : List Str) (fs : LL) (rs : List Str) (ps : List (Str × Str)) (v3 v4 v5 v6 v7 : Option O) : DEnv :=
  [some o, some (.d (frameD hs fs rs ps)), some (.d (settingD hs fs rs ps)), v3, v4, v5, v6, v7, none, none]
section
variable {hs : List Str} {fs : LL} {rs : List Str} {ps : List (Str × Str)} {E : DEnv} {x y d : D} {nm : List Str} {t t1 u1 t2 u2 : Str} {xs ds es : List D} {a b : Str} {o : O} {v3 v4 v5 v6 v7 : Option O}
/-- what is told of a pair: due and told -/
structure PF (hs : List Str) (fs : LL) (rs : List Str) (ps : List (Str × Str)) (d : D) (t1 u1 t2 u2 : Str) : Prop where
  k1 : okS t1
  l1 : okS u1
  k2 : okS t2
  l2 : okS u2
  h2 : ∃ b5 : Bool, ∀ (o : O) (v3 v5 v6 v7 : Option O), k05q2 (eQ5 o hs fs rs ps v3 (some (.d d)) v5 v6 v7) = .nx (eQ5 o hs fs rs ps v3 (some (.d d)) (some (.d (.bl b5))) v6 v7) ∧
    (∀ t, reprED [.int (ps.length : Nat)] = some (.str t) → k05q4 (eQ5 o hs fs rs ps v3 (some (.d d)) (some (.d (.bl b5))) (some (.d (.lst [.str "promises", .str t]))) v7) = .nx (eQ5 o hs fs rs ps v3 (some (.d d)) (some (.d (.bl b5))) (some (.d (.lst [.str t1, .str u1]))) v7))
  h5 : ∀ (E : DEnv) (ma mb : MD), At E ma (settingD hs fs rs ps) → At E mb d → At E (mLam r_l_heard_4 (mMeth "Setting" "joined" m_Setting_joined ma (mCons mb mNil))) (.lst [.str t1, .str u1]) ∧ At E (mLam r_l_heard_4 (mMethK "Setting" "joined" m_Setting_joined [0, 1] ma (mCons mb mNil))) (.lst [.str t1, .str u1])
  r : ∃ t, reprED [d] = some (.str t) ∧ okS t ∧ ∀ (o : O) (v3 v5 v7 : Option O), k05q9 (eQ5 o hs fs rs ps v3 (some (.d d)) v5 (some (.d (.lst [.str "name", .str t]))) v7) = .nx (eQ5 o hs fs rs ps v3 (some (.d d)) v5 (some (.d (.lst [.str t2, .str u2]))) v7)
  h10 : ∀ (E : DEnv) (ma mb : MD), At E ma (settingD hs fs rs ps) → At E mb d → At E (mLam r_l_heard_4 (mMeth "Setting" "without" m_Setting_without_2 ma (mCons mb mNil))) (.lst [.str t2, .str u2]) ∧ At E (mLam r_l_heard_4 (mMethK "Setting" "without" m_Setting_without_2 [0, 1] ma (mCons mb mNil))) (.lst [.str t2, .str u2])
theorem four_pl (h1 : okS t1) (h2 : okS u1) : plN 60 (.lst [.lst [.str t1, .str u1], .lst [.str t1, .str u1]]) = true := by
  have h : plN 59 (.lst [.str t1, .str u1]) = true := by
    show ([D.str t1, D.str u1].all (plN 58)) = true
    simp only [List.all_cons, List.all_nil, Bool.and_true, Bool.and_eq_true]
    exact ⟨okS_plN h1, okS_plN h2⟩
  show ([D.lst [.str t1, .str u1], D.lst [.str t1, .str u1]].all (plN 59)) = true
  simp only [List.all_cons, List.all_nil, h, Bool.and_self]
theorem pair_rest (P : PF hs fs rs ps d t1 u1 t2 u2) (hl : ps.length ≤ 25) : (mSeq k05q2 (mSeq k05q3 (mSeq k05q4 (mSeq k05q5 (mSeq k05q6 (mSeq k05q7 (mSeq k05q8 (mSeq k05q9 (mSeq k05q10 (mSeq k05q11 k05q12)))))))))) (eQ5 o hs fs rs ps v3 (some (.d d)) v5 v6 v7) =
    .rt (.bl true) (eQ5 o hs fs rs ps v3 (some (.d d)) (P.h2.choose |> fun b5 => some (.d (.bl b5))) (some (.d (.lst [.str t2, .str u2]))) (some (oL [.lst [.str t2, .str u2], .lst [.str t2, .str u2]]))) := by
  obtain ⟨s2, s4⟩ := P.h2.choose_spec o v3 v5 v6 v7
  generalize P.h2.choose = b5 at s2 s4 ⊢
  obtain ⟨t, ht, ot⟩ := repr_int5 (k := ps.length) (by omega)
  have g3 : getD (frameD hs fs rs ps) (.int 3) = some (.lst (pl ps)) := by simp [frameD]
  have s3 : ∀ v5 v6, k05q3 (eQ5 o hs fs rs ps v3 (some (.d d)) v5 v6 v7) = .nx (eQ5 o hs fs rs ps v3 (some (.d d)) v5 (some (.d (.lst [.str "promises", .str t]))) v7) := fun v5 v6 => by
    unfold k05q3
    have c := at_cb (at_1 (at_op (E := eQ5 o hs fs rs ps v3 (some (.d d)) v5 v6 v7) (a := mVar 1) (b := mC (.int 3)) rfl rfl g3)) (g := lenD) v_lenL
    rw [pl_len] at c
    exact st_set (at_lstS (at_cons rfl (at_1 (at_cb (at_1 c) ht))))
  have j := fun E => P.h5 E (mVar 2) (mVar 4)
  have w := fun E => P.h10 E (mVar 2) (mVar 4)
  have s5 : ∀ v5 v6 v7, k05q5 (eQ5 o hs fs rs ps v3 (some (.d d)) v5 v6 v7) = .nx (eQ5 o hs fs rs ps v3 (some (.d d)) v5 v6 (some (oL [.lst [.str t1, .str u1]]))) := fun v5 v6 v7 => by
    unfold k05q5
    exact (setO_S (o := oL [.lst [.str t1, .str u1]]) (lstO_S (at_1 (j _ rfl rfl).1))).trans rfl
  have s10 : ∀ v5 v6 v7, k05q10 (eQ5 o hs fs rs ps v3 (some (.d d)) v5 v6 v7) = .nx (eQ5 o hs fs rs ps v3 (some (.d d)) v5 v6 (some (oL [.lst [.str t2, .str u2]]))) := fun v5 v6 v7 => by
    unfold k05q10
    exact (setO_S (o := oL [.lst [.str t2, .str u2]]) (lstO_S (at_1 (w _ rfl rfl).1))).trans rfl
  have ap : ∀ (c : D) (v5 v6 : Option O) {m : MD}, At (eQ5 o hs fs rs ps v3 (some (.d d)) v5 v6 (some (oL [c]))) m c → mApp 7 m (eQ5 o hs fs rs ps v3 (some (.d d)) v5 v6 (some (oL [c]))) = .nx (eQ5 o hs fs rs ps v3 (some (.d d)) v5 v6 (some (oL [c, c]))) := fun c v5 v6 m h => by
    refine (e_app (os := [c].map .d) ⟨_, rfl⟩ h rfl (by show 1 < sizeLine; decide +kernel)).trans ?_
    rfl
  have s6 : ∀ v5 v6, k05q6 (eQ5 o hs fs rs ps v3 (some (.d d)) v5 v6 (some (oL [.lst [.str t1, .str u1]]))) = .nx (eQ5 o hs fs rs ps v3 (some (.d d)) v5 v6 (some (oL [.lst [.str t1, .str u1], .lst [.str t1, .str u1]]))) := fun v5 v6 => ap _ v5 v6 (j _ rfl rfl).2
  have s11 : ∀ v5 v6, k05q11 (eQ5 o hs fs rs ps v3 (some (.d d)) v5 v6 (some (oL [.lst [.str t2, .str u2]]))) = .nx (eQ5 o hs fs rs ps v3 (some (.d d)) v5 v6 (some (oL [.lst [.str t2, .str u2], .lst [.str t2, .str u2]]))) := fun v5 v6 => ap _ v5 v6 (w _ rfl rfl).2
  have s7 : ∀ v5, k05q7 (eQ5 o hs fs rs ps v3 (some (.d d)) v5 (some (.d (.lst [.str t1, .str u1]))) (some (oL [.lst [.str t1, .str u1], .lst [.str t1, .str u1]]))) = .nx (eQ5 o hs fs rs ps v3 (some (.d d)) v5 (some (.d (.lst [.str t1, .str u1]))) (some (oL [.lst [.str t1, .str u1], .lst [.str t1, .str u1]]))) := fun v5 => by
    unfold k05q7
    exact st_ifF (at_test (opL_at (u := false) (ds := [.lst [.str t1, .str u1], .lst [.str t1, .str u1]]) rfl (at_lstS (at_cons (m := mVar 6) rfl (at_1 (m := mVar 6) rfl))) (ne_self (four_pl P.k1 P.l1))))
  obtain ⟨t', ht', ot', s9⟩ := P.r
  have s8 : ∀ v5 v6 v7, k05q8 (eQ5 o hs fs rs ps v3 (some (.d d)) v5 v6 v7) = .nx (eQ5 o hs fs rs ps v3 (some (.d d)) v5 (some (.d (.lst [.str "name", .str t']))) v7) := fun v5 v6 v7 => by
    unfold k05q8
    exact st_set (at_lstS (at_cons rfl (at_1 (at_cb (at_1 (m := mVar 4) rfl) ht'))))
  rw [e_seq, s2, andThen_nx, e_seq, s3, andThen_nx, e_seq, s4 t ht, andThen_nx, e_seq, s5, andThen_nx, e_seq, s6, andThen_nx, e_seq, s7, andThen_nx, e_seq, s8, andThen_nx, e_seq, s9, andThen_nx, e_seq, s10, andThen_nx, e_seq, s11, andThen_nx]
  unfold k05q12
  exact st_ret (opL_at (u := true) (ds := [.lst [.str t2, .str u2], .lst [.str t2, .str u2]]) rfl (at_lstS (at_cons (m := mVar 6) rfl (at_1 (m := mVar 6) rfl))) (eq_self' (four_pl P.k2 P.l2)))
end
end Mi
namespace Mi
open PySem DD
open Classical
section
variable {hs : List Str} {fs : LL} {rs : List Str} {ps qs : List (Str × Str)} {E : DEnv} {x y d : D} {nm : List Str} {t t1 u1 t2 u2 : Str} {xs ds es : List D} {a b : Str} {o : O} {v3 v4 v5 v6 v7 : Option O}
theorem hnj5 : ("joined" : Str) ∉ (["houses", "fails", "readers", "promises"] : List Str) := by decide +kernel
theorem hnw5 : ("without" : Str) ∉ (["houses", "fails", "readers", "promises"] : List Str) := by decide +kernel
theorem pfB (F : Fr hs fs rs ps) (hp : m_is_pair [.tup (sl rs), d] = .ok (.bl false)) (h2 : ∀ (o : O) (v3 v5 v6 v7 : Option O), At (eQ5 o hs fs rs ps v3 (some (.d d)) v5 v6 v7) (mAndV (mUn (isiD "tuple") (mVar 4)) (mAndV (mOp eqD (mCB lenD (mCons (mVar 4) mNil)) (mC (.int 2))) (mAndV (mOp inD (mOp getD (mVar 4) (mC (.int 0))) (mOp getD (mVar 1) (mC (.int 2)))) (mOp inD (mOp getD (mVar 4) (mC (.int 1))) (mOp getD (mVar 1) (mC (.int 2))))))) (.bl false))
    (hx : inXD d (.lst (pl ps)) = some (.bl false)) (hr : ∃ t, reprED [d] = some (.str t) ∧ okS t) : ∃ t1 u1 t2 u2, PF hs fs rs ps d t1 u1 t2 u2 := by
  have hl := fr_len F
  obtain ⟨u, hu, ou⟩ := repr_int5 (k := ps.length) (by omega)
  obtain ⟨t, ht, ot⟩ := hr
  have g3 : getD (frameD hs fs rs ps) (.int 3) = some (.lst (pl ps)) := by simp [frameD]
  exact ⟨"promises", u, "name", t, {
    k1 := by decide +kernel
    l1 := ou
    k2 := by decide +kernel
    l2 := ot
    h2 := ⟨false, fun o v3 v5 v6 v7 => ⟨st_set (h2 o v3 v5 v6 v7), fun t' ht' => by
      rw [hu] at ht'
      cases ht'
      exact st_ifF (at_and (u := false) (v := false) (at_test (a := mVar 5) rfl) fun z => nomatch z)⟩⟩
    h5 := fun E ma mb ha hb => ⟨lam_exc (meth_x hnj5 ha (at_1 hb) (joined_no hp)) (hd_p5 hu), lam_exc (methK_x hnj5 ha (at_1 hb) rfl (joined_no hp)) (hd_p5 hu)⟩
    r := ⟨t, ht, ot, fun o v3 v5 v7 => st_ifF (at_test (at_op (a := mVar 4) rfl (at_op (a := mVar 1) (b := mC (.int 3)) rfl rfl g3) hx))⟩
    h10 := fun E ma mb ha hb => ⟨lam_exc (meth_x hnw5 ha (at_1 hb) (without_no hp)) (hd_n5 ht), lam_exc (methK_x hnw5 ha (at_1 hb) rfl (without_no hp)) (hd_n5 ht)⟩ }⟩
theorem in_prL (F : Fr hs fs rs ps) (oa : okS a) (ob : okS b) : inD (prD a b) (.lst (pl ps)) = some (.bl (decide ((a, b) ∈ ps))) := by
  rw [in_plL (prD_pl oa ob) (pls F)]
  exact congrArg (fun b => some (D.bl b)) (decide_eq_decide.mpr mem_pl)
theorem notin_prL (F : Fr hs fs rs ps) (oa : okS a) (ob : okS b) : notInD (prD a b) (.lst (pl ps)) = some (.bl (!decide ((a, b) ∈ ps))) := by
  have := in_prL F oa ob
  unfold inD at this
  unfold notInD
  cases h : inB (prD a b) (.lst (pl ps)) with
  | none => rw [h] at this; cases this
  | some c =>
    rw [h] at this
    have e : c = decide ((a, b) ∈ ps) := by injection (Option.some.inj this)
    subst e
    rfl
theorem built5 {X : MD} (F : Fr hs fs rs qs) (hf : At E (mVar 1) (frameD hs fs rs ps)) (hX : At E X (.lst (pl qs))) : At E (mCall m_l_built (mCons (mOp addD (mSlice (mVar 1) mNoPart (mPart (mC (.int 3)))) (mLst (mCons X mNil))) mNil)) (settingD hs fs rs qs) :=
  at_call (at_1 (at_op (at_slL (k := 3) hf rfl) (at_lstS (at_1 hX)) (add_lst (by show 3 + 1 ≤ 100000; omega)))) (built_ok F)
theorem pair_iff (oa : okT a) (ob : okT b) (orr : ∀ x ∈ rs, okS x) : m_is_pair [.tup (sl rs), prD a b] = .ok (.bl (decide (a ∈ rs ∧ b ∈ rs ∧ a ≠ b))) := by
  have h := is_pair_iff (hs := rs) (d := prD a b) (.inl ⟨_, rfl, fun e he => by
    rcases List.mem_cons.mp he with rfl | he
    · exact .inl ⟨a, oa, rfl⟩
    · rw [List.mem_singleton.mp he]
      exact .inl ⟨b, ob, rfl⟩, by show 2 ≤ 20; omega⟩) orr
  rw [h]
  refine congrArg (fun b => RP.ok (D.bl b)) (decide_eq_decide.mpr ⟨fun ⟨c, d, e, m1, m2, ne⟩ => ?_, fun ⟨m1, m2, ne⟩ => ⟨a, b, rfl, m1, m2, ne⟩⟩)
  unfold prD at e
  injection e with e
  injection e with e1 e2
  injection e1 with e1
  injection e2 with e2
  injection e2 with e2
  subst e1 e2
  exact ⟨m1, m2, ne⟩
theorem str_ne5 {s t : Str} (hs : okS s) (ht : okS t) : neD (.str s) (.str t) = some (.bl (decide (s ≠ t))) := by
  rw [ne_pl (okS_plN hs) (okS_plN ht)]
  exact congrArg (fun b => some (D.bl b)) (decide_eq_decide.mpr (not_congr (by rw [D.str.injEq])))
theorem pfA (F : Fr hs fs rs ps) (N : ShortN hs rs) (oa : okT a) (ob : okT b) (hr : ∃ t, reprED [prD a b] = some (.str t) ∧ okS t) : ∃ t1 u1 t2 u2, PF hs fs rs ps (prD a b) t1 u1 t2 u2 := by
  have hl := fr_len F
  obtain ⟨u, hu, ou⟩ := repr_int5 (k := ps.length) (by omega)
  obtain ⟨t, ht, ot⟩ := hr
  have g2 : getD (frameD hs fs rs ps) (.int 2) = some (.lst (sl rs)) := by simp [frameD]
  have g3 : getD (frameD hs fs rs ps) (.int 3) = some (.lst (pl ps)) := by simp [frameD]
  have ors := (oks F).2.1
  have q2 : ∀ (o : O) (v3 v5 v6 v7 : Option O), k05q2 (eQ5 o hs fs rs ps v3 (some (.d (prD a b))) v5 v6 v7) = .nx (eQ5 o hs fs rs ps v3 (some (.d (prD a b))) (some (.d (.bl (decide (a ∈ rs) && decide (b ∈ rs))))) v6 v7) := fun o v3 v5 v6 v7 =>
    st_set (at_andV (u := true) (at_un (a := mVar 4) (f := isiD "tuple") rfl rfl) fun _ => at_andV (u := true) (at_op (at_cb (at_1 (m := mVar 4) rfl) (g := lenD) (v_lenT (xs := [.str a, .str b]))) (b := mC (.int 2)) rfl rfl) fun _ => at_andV (at_op (at_op (a := mVar 4) (b := mC (.int 0)) rfl rfl rfl) (at_op (a := mVar 1) (b := mC (.int 2)) rfl rfl g2) (in_strL oa.1 ors)) fun _ => at_op (at_op (a := mVar 4) (b := mC (.int 1)) rfl rfl rfl) (at_op (a := mVar 1) (b := mC (.int 2)) rfl rfl g2) (in_strL ob.1 ors))
  have c4 : ∀ (o : O) (v3 v6 v7 : Option O), AtB (eQ5 o hs fs rs ps v3 (some (.d (prD a b))) (some (.d (.bl (decide (a ∈ rs) && decide (b ∈ rs))))) v6 v7) (mAnd (mTest (mVar 5)) (mTest (mOp neD (mOp getD (mVar 4) (mC (.int 0))) (mOp getD (mVar 4) (mC (.int 1)))))) ((decide (a ∈ rs) && decide (b ∈ rs)) && decide (a ≠ b)) := fun o v3 v6 v7 =>
    at_and (at_test (a := mVar 5) rfl) fun _ => at_test (at_op (at_op (a := mVar 4) (b := mC (.int 0)) rfl rfl rfl) (at_op (a := mVar 4) (b := mC (.int 1)) rfl rfl rfl) (str_ne5 oa.1 ob.1))
  have x9 : inXD (prD a b) (.lst (pl ps)) = some (.bl (decide ((a, b) ∈ ps))) := in_prL F oa.1 ob.1
  have t9 : ∀ (o : O) (v3 v5 v6 v7 : Option O), AtB (eQ5 o hs fs rs ps v3 (some (.d (prD a b))) v5 v6 v7) (mTest (mOp inXD (mVar 4) (mOp getD (mVar 1) (mC (.int 3))))) (decide ((a, b) ∈ ps)) := fun o v3 v5 v6 v7 => at_test (at_op (a := mVar 4) rfl (at_op (a := mVar 1) (b := mC (.int 3)) rfl rfl g3) x9)
  by_cases hp : a ∈ rs ∧ b ∈ rs ∧ a ≠ b
  · obtain ⟨ha, hb, hne⟩ := hp
    have e4 : ((decide (a ∈ rs) && decide (b ∈ rs)) && decide (a ≠ b)) = true := by simp [ha, hb, hne]
    have F1 : Fr hs fs rs (if (a, b) ∈ ps then ps else ps ++ [(a, b)]) := by
      by_cases q : (a, b) ∈ ps
      · rw [if_pos q]; exact F
      · rw [if_neg q]; exact fr_add F ha hb hne q
    have F2 : Fr hs fs rs (ps.filter fun p => decide (p ≠ (a, b))) := fr_del F _
    have jo := joined_yes F ha hb hne
    have wi := without_pair F ha hb hne
    have q4 : ∀ (o : O) (v3 v6 v7 : Option O), k05q4 (eQ5 o hs fs rs ps v3 (some (.d (prD a b))) (some (.d (.bl (decide (a ∈ rs) && decide (b ∈ rs))))) v6 v7) = .nx (eQ5 o hs fs rs ps v3 (some (.d (prD a b))) (some (.d (.bl (decide (a ∈ rs) && decide (b ∈ rs))))) (some (.d (.lst [.str "told", .str (pageS hs fs rs (if (a, b) ∈ ps then ps else ps ++ [(a, b)]))]))) v7) := fun o v3 v6 v7 => by
      refine st_if (c4 o v3 v6 v7) (fun _ => ?_) fun z => by rw [e4] at z; cases z
      refine st_set (at_lstS (at_cons rfl (at_1 (str_at02 F1 N (built5 F1 rfl ?_)))))
      have ai := at_if (E := eQ5 o hs fs rs ps v3 (some (.d (prD a b))) (some (.d (.bl (decide (a ∈ rs) && decide (b ∈ rs))))) v6 v7) (a := mLst (mCons (mVar 4) mNil)) (b := mLst mNil) (d := .lst (if (a, b) ∈ ps then [] else [prD a b])) (at_test (at_op (a := mVar 4) rfl (at_op (a := mVar 1) (b := mC (.int 3)) rfl rfl g3) (notin_prL F oa.1 ob.1))) (fun z => by
        rw [if_neg (by simpa using z)]
        exact at_lstS (at_1 (m := mVar 4) rfl)) (fun z => by
        rw [if_pos (by simpa using z)]
        exact at_lstS at_nil)
      have e : pl (if (a, b) ∈ ps then ps else ps ++ [(a, b)]) = pl ps ++ (if (a, b) ∈ ps then [] else [prD a b]) := by
        by_cases q : (a, b) ∈ ps
        · rw [if_pos q, if_pos q, List.append_nil]
        · rw [if_neg q, if_neg q]
          unfold pl
          rw [List.map_append]
          rfl
      rw [e]
      exact at_op (at_op (a := mVar 1) (b := mC (.int 3)) rfl rfl g3) ai (add_lst (by
        rw [pl_len]
        by_cases q : (a, b) ∈ ps
        · rw [if_pos q]; simp; omega
        · rw [if_neg q]; simp; omega))
    by_cases q : (a, b) ∈ ps
    · rw [if_pos q] at wi
      refine ⟨"told", pageS hs fs rs (if (a, b) ∈ ps then ps else ps ++ [(a, b)]), "told", pageS hs fs rs (ps.filter fun p => decide (p ≠ (a, b))), {
        k1 := by decide +kernel
        l1 := page_ok F1
        k2 := by decide +kernel
        l2 := page_ok F2
        h2 := ⟨_, fun o v3 v5 v6 v7 => ⟨q2 o v3 v5 v6 v7, fun t' ht' => q4 o v3 _ v7⟩⟩
        h5 := fun E ma mb ha hb => ⟨lam_of (meth_atN hnj5 ha (at_1 hb) jo) (hd_s5 F1 N), lam_of (methK_at hnj5 ha (at_1 hb) rfl jo) (hd_s5 F1 N)⟩
        r := ⟨t, ht, ot, fun o v3 v5 v7 => ?_⟩
        h10 := fun E ma mb ha hb => ⟨lam_of (meth_atN hnw5 ha (at_1 hb) wi) (hd_s5 F2 N), lam_of (methK_at hnw5 ha (at_1 hb) rfl wi) (hd_s5 F2 N)⟩ }⟩
      refine st_if (t9 o v3 v5 _ v7) (fun _ => ?_) fun z => by rw [decide_eq_true q] at z; cases z
      refine st_set (at_lstS (at_cons rfl (at_1 (str_at02 F2 N (built5 F2 rfl ?_)))))
      refine at_lc (it := mIter (mOp getD (mVar 1) (mC (.int 3)))) (tg := gV 9) (p := mTest (mOp neD (mVar 9) (mVar 4))) (a := mVar 9) (vs := [9]) (fun p : Str × Str => prD p.1 p.2) (fun p => (eQ5 o hs fs rs ps v3 (some (.d (prD a b))) v5 (some (.d (.lst [.str "name", .str t]))) v7).set 9 (some (.d (prD p.1 p.2)))) ps (fun p => decide (p ≠ (a, b))) (fun p => prD p.1 p.2)
        (at_iter (at_op (a := mVar 1) (b := mC (.int 3)) rfl rfl g3) rfl) (by omega) rfl rfl fun p hp => by
          obtain ⟨m1, m2, _⟩ := F.pm p hp
          refine ⟨rfl, rfl, at_test (at_op (a := mVar 9) (b := mVar 4) rfl rfl ?_), fun _ => rfl⟩
          rw [ne_pl (prD_pl (ors _ m1) (ors _ m2)) (prD_pl oa.1 ob.1)]
          refine congrArg (fun b => some (D.bl b)) (decide_eq_decide.mpr (not_congr ⟨fun e => ?_, fun e => by rw [e]⟩))
          unfold prD at e
          injection e with e
          injection e with e1 e2
          injection e1 with e1
          injection e2 with e2
          injection e2 with e2
          exact Prod.ext e1 e2
    · rw [if_neg q] at wi
      exact ⟨"told", pageS hs fs rs (if (a, b) ∈ ps then ps else ps ++ [(a, b)]), "name", t, {
        k1 := by decide +kernel
        l1 := page_ok F1
        k2 := by decide +kernel
        l2 := ot
        h2 := ⟨_, fun o v3 v5 v6 v7 => ⟨q2 o v3 v5 v6 v7, fun t' ht' => q4 o v3 _ v7⟩⟩
        h5 := fun E ma mb ha hb => ⟨lam_of (meth_atN hnj5 ha (at_1 hb) jo) (hd_s5 F1 N), lam_of (methK_at hnj5 ha (at_1 hb) rfl jo) (hd_s5 F1 N)⟩
        r := ⟨t, ht, ot, fun o v3 v5 v7 => st_if (t9 o v3 v5 _ v7) (fun z => by rw [decide_eq_false q] at z; cases z) fun _ => rfl⟩
        h10 := fun E ma mb ha hb => ⟨lam_exc (meth_x hnw5 ha (at_1 hb) wi) (hd_n5 ht), lam_exc (methK_x hnw5 ha (at_1 hb) rfl wi) (hd_n5 ht)⟩ }⟩
  · have np := pair_iff oa ob ors
    rw [decide_eq_false hp] at np
    have nm : (a, b) ∉ ps := fun m => hp (F.pm _ m)
    have e4 : ((decide (a ∈ rs) && decide (b ∈ rs)) && decide (a ≠ b)) = false := by
      cases z : ((decide (a ∈ rs) && decide (b ∈ rs)) && decide (a ≠ b)) with
      | false => rfl
      | true =>
        rw [Bool.and_eq_true, Bool.and_eq_true] at z
        exact absurd ⟨of_decide_eq_true z.1.1, of_decide_eq_true z.1.2, of_decide_eq_true z.2⟩ hp
    exact ⟨"promises", u, "name", t, {
      k1 := by decide +kernel
      l1 := ou
      k2 := by decide +kernel
      l2 := ot
      h2 := ⟨_, fun o v3 v5 v6 v7 => ⟨q2 o v3 v5 v6 v7, fun t' ht' => by
        rw [hu] at ht'
        cases ht'
        exact st_if (c4 o v3 _ v7) (fun z => by rw [e4] at z; cases z) fun _ => rfl⟩⟩
      h5 := fun E ma mb ha hb => ⟨lam_exc (meth_x hnj5 ha (at_1 hb) (joined_no np)) (hd_p5 hu), lam_exc (methK_x hnj5 ha (at_1 hb) rfl (joined_no np)) (hd_p5 hu)⟩
      r := ⟨t, ht, ot, fun o v3 v5 v7 => st_if (t9 o v3 v5 _ v7) (fun z => by rw [decide_eq_false nm] at z; cases z) fun _ => rfl⟩
      h10 := fun E ma mb ha hb => ⟨lam_exc (meth_x hnw5 ha (at_1 hb) (without_no np)) (hd_n5 ht), lam_exc (methK_x hnw5 ha (at_1 hb) rfl (without_no np)) (hd_n5 ht)⟩ }⟩
end
end Mi
namespace Mi
open PySem DD
open Classical
section
variable {hs : List Str} {fs : LL} {rs : List Str} {ps qs : List (Str × Str)} {E : DEnv} {x y d : D} {a b r0 h0 : Str} {o : O} {v3 v4 v5 v6 v7 : Option O}
theorem repr_sm5 {x : D} (h : smN 50 x = true) (hw : wtD x ≤ 200000) (he : reprED [x] = reprD [x] := by rfl) : ∃ t, reprED [x] = some (.str t) ∧ okS t := by
  obtain ⟨t, r1, r2⟩ := repr_some h hw
  exact ⟨t, by rw [he]; exact r1, r2⟩
theorem inx_no (F : Fr hs fs rs ps) (h : plN 60 d = true) (hd : inDct d (.lst (pl ps)) = none) (hm : ∀ p : Str × Str, D.tup [.str p.1, .str p.2] ≠ d) : inXD d (.lst (pl ps)) = some (.bl false) := by
  unfold inXD
  rw [hd]
  exact in_no h (pls F) fun z => by
    obtain ⟨p, _, e⟩ := List.mem_map.mp z
    exact hm p e
theorem allT_pl : ∀ ps : List (Str × Str), allTup (pl ps) = true
  | [] => rfl
  | _ :: ps => allT_pl ps
theorem inx_dct : inXD (.dct [] []) (.lst (pl ps)) = some (.bl false) := by
  unfold inXD
  rw [show inDct (.dct [] []) (.lst (pl ps)) = some (.bl false) from if_pos (allT_pl ps)]
theorem two_34 : m_is_pair [.tup (sl rs), .tup [.int 3, .int 4]] = .ok (.bl false) := by kernel_rfl
theorem q2_no (h : isiD "tuple" d = some (.bl false)) : ∀ (o : O) (v3 v5 v6 v7 : Option O), At (eQ5 o hs fs rs ps v3 (some (.d d)) v5 v6 v7) (mAndV (mUn (isiD "tuple") (mVar 4)) (mAndV (mOp eqD (mCB lenD (mCons (mVar 4) mNil)) (mC (.int 2))) (mAndV (mOp inD (mOp getD (mVar 4) (mC (.int 0))) (mOp getD (mVar 1) (mC (.int 2)))) (mOp inD (mOp getD (mVar 4) (mC (.int 1))) (mOp getD (mVar 1) (mC (.int 2))))))) (.bl false) :=
  fun o v3 v5 v6 v7 => at_andV (u := false) (v := false) (at_un (a := mVar 4) rfl h) fun z => nomatch z
theorem q2_len {ds : List D} (h : eqD (.int (ds.length : Nat)) (.int 2) = some (.bl false)) : ∀ (o : O) (v3 v5 v6 v7 : Option O), At (eQ5 o hs fs rs ps v3 (some (.d (.tup ds))) v5 v6 v7) (mAndV (mUn (isiD "tuple") (mVar 4)) (mAndV (mOp eqD (mCB lenD (mCons (mVar 4) mNil)) (mC (.int 2))) (mAndV (mOp inD (mOp getD (mVar 4) (mC (.int 0))) (mOp getD (mVar 1) (mC (.int 2)))) (mOp inD (mOp getD (mVar 4) (mC (.int 1))) (mOp getD (mVar 1) (mC (.int 2))))))) (.bl false) :=
  fun o v3 v5 v6 v7 => at_andV (u := true) (v := false) (at_un (a := mVar 4) (f := isiD "tuple") rfl rfl) fun _ => at_andV (u := false) (v := false) (at_op (at_cb (at_1 (m := mVar 4) rfl) (g := lenD) v_lenT) (b := mC (.int 2)) rfl h) fun z => nomatch z
def odd5 (r0 h0 : Str) : List D := [.non, .str "a", .tup [], .tup [.str "a"], .lst [.str "a", .str "b"], .tup [.int 3, .int 4], .dct [] [], prD r0 r0, prD h0 r0]
theorem repr_pr (oa : okT a) (ob : okT b) : ∃ t, reprED [prD a b] = some (.str t) ∧ okS t := by
  refine repr_sm5 (x := prD a b) ?_ ?_
  · show (List.all [D.str a, D.str b] (smN 49)) = true
    simp only [List.all_cons, List.all_nil, Bool.and_true, Bool.and_eq_true]
    exact ⟨oa.1, ob.1⟩
  · show a.length + 1 + (b.length + 1 + 0) ≤ 200000
    have := oa.2
    have := ob.2
    omega
theorem okT_a5 : okT "a" := ⟨by decide +kernel, by decide +kernel⟩
theorem pf_odd (F : Fr hs fs rs ps) (N : ShortN hs rs) (o1 : okT r0) (o2 : okT h0) (hd : d ∈ odd5 r0 h0) : ∃ t1 u1 t2 u2, PF hs fs rs ps d t1 u1 t2 u2 := by
  have ors := (oks F).2.1
  have np : ∀ {d : D}, Th d → (∀ a b : Str, D.tup [.str a, .str b] ≠ d) → m_is_pair [.tup (sl rs), d] = .ok (.bl false) := fun h1 h2 => by
    rw [is_pair_iff h1 ors, decide_eq_false (fun ⟨a, b, e, _⟩ => h2 a b e.symm)]
  unfold odd5 at hd
  simp only [List.mem_cons, List.not_mem_nil, or_false] at hd
  rcases hd with rfl | rfl | rfl | rfl | rfl | rfl | rfl | rfl | rfl
  · exact pfB F (np (.inr (.inr ⟨rfl, rfl⟩)) fun _ _ e => by cases e) (q2_no rfl) (inx_no F rfl rfl fun _ e => by cases e) (repr_sm5 rfl (by decide))
  · exact pfB F (np (.inr (.inl ⟨"a", okT_a5, rfl⟩)) fun _ _ e => by cases e) (q2_no rfl) (inx_no F (okS_plN okT_a5.1) rfl fun _ e => by cases e) (repr_sm5 (by kernel_rfl) (by decide))
  · exact pfB F (np (.inl ⟨[], rfl, fun e he => (by cases he), by decide⟩) fun _ _ e => by cases e) (q2_len rfl) (inx_no F rfl rfl fun _ e => by cases e) (repr_sm5 rfl (by decide))
  · exact pfB F (np (.inl ⟨[.str "a"], rfl, fun e he => by
      rw [List.mem_singleton.mp he]
      exact .inl ⟨"a", okT_a5, rfl⟩, by decide⟩) fun _ _ e => by
      injection e with e
      injection e with _ e
      cases e) (q2_len rfl) (inx_no F (by kernel_rfl) rfl fun _ e => by
      injection e with e
      injection e with _ e
      cases e) (repr_sm5 (by kernel_rfl) (by decide))
  · exact pfB F (np (.inr (.inr ⟨rfl, rfl⟩)) fun _ _ e => by cases e) (q2_no rfl) (inx_no F (by kernel_rfl) rfl fun _ e => by cases e) (repr_sm5 (by kernel_rfl) (by decide))
  · refine pfB F two_34 (fun o v3 v5 v6 v7 => ?_) (inx_no F (by kernel_rfl) rfl fun _ e => by cases e) (repr_sm5 (by kernel_rfl) (by decide))
    have g2 : getD (frameD hs fs rs ps) (.int 2) = some (.lst (sl rs)) := by simp [frameD]
    have n3 : inD (.int 3) (.lst (sl rs)) = some (.bl false) := in_no (by kernel_rfl) (sl_pl ors) fun z => by
      obtain ⟨p, _, e⟩ := List.mem_map.mp z
      cases e
    exact at_andV (u := true) (v := false) (at_un (a := mVar 4) (f := isiD "tuple") rfl rfl) fun _ => at_andV (u := true) (v := false) (at_op (at_cb (at_1 (m := mVar 4) rfl) (g := lenD) v_lenT) (b := mC (.int 2)) rfl rfl) fun _ => at_andV (u := false) (v := false) (at_op (at_op (a := mVar 4) (b := mC (.int 0)) rfl rfl rfl) (at_op (a := mVar 1) (b := mC (.int 2)) rfl rfl g2) n3) fun z => nomatch z
  · exact pfB F (np (.inr (.inr ⟨rfl, rfl⟩)) fun _ _ e => by cases e) (q2_no rfl) inx_dct ⟨"{}", rfl, by decide +kernel⟩
  · exact pfA F N o1 o1 (repr_pr o1 o1)
  · exact pfA F N o2 o1 (repr_pr o2 o1)
theorem tup_dr22 {a b : MD} {E1 E2 : DEnv} (h : a E = .ok x E1) (h2 : b E1 = .ok y E2) : (mTup (mCons a (mCons b mNil))) E = .ok (.tup [x, y]) E2 := by
  rw [e_tup, e_cons, h, Rs.bind_ok, e_cons, h2, Rs.bind_ok, e_nil, Rs.bind_ok, Rs.bind_ok, Rs.bind_ok, size_e, if_pos (by show 2 ≤ 16777216; omega)]
theorem sel_all5 {α β : Type} {P : α → Bool → Prop} {Q : α → β → Prop} {R : β → Prop} (h : ∀ x y, Q x y → R y) : ∀ {xs : List α} {ys : List β}, Sel P Q xs ys → (∀ y ∈ ys, R y) ∧ ys.length ≤ xs.length
  | _, _, .nil => ⟨(fun _ hy => nomatch hy), Nat.le_refl _⟩
  | _, _, .skip _ t => ⟨(sel_all5 h t).1, Nat.le_succ_of_le (sel_all5 h t).2⟩
  | _, _, .take _ q t => by
    refine ⟨fun y hy => ?_, Nat.succ_le_succ (sel_all5 h t).2⟩
    rcases List.mem_cons.mp hy with rfl | hy
    · exact h _ _ q
    · exact (sel_all5 h t).1 y hy
theorem okT_menu {c : Str} (h : c ∈ menu) : okT c := by
  have C := menu_cln c h
  exact ⟨C.2.2.2, by have := C.2.2.1; omega⟩
theorem pair_right5 (F : Fr hs fs rs ps) (N : ShortN hs rs) (m1 : ∀ x ∈ hs, x ∈ menu) (m2 : ∀ x ∈ rs, x ∈ menu) (j : Jar o) : ∃ o', Jar o' ∧ m_l_pair_right o [frameD hs fs rs ps, settingD hs fs rs ps] = .ok (.bl true) o' := by
  obtain ⟨r0, rr, er⟩ : ∃ r0 rr, rs = r0 :: rr := by
    cases rs with
    | nil => exact absurd rfl F.r0
    | cons a r => exact ⟨a, r, rfl⟩
  obtain ⟨h0, hr, eh⟩ : ∃ h0 hr, hs = h0 :: hr := by
    cases hs with
    | nil => exact absurd rfl F.h0
    | cons a r => exact ⟨a, r, rfl⟩
  have or0 := okT_menu (m2 r0 (by rw [er]; exact List.mem_cons_self))
  have oh0 := okT_menu (m1 h0 (by rw [eh]; exact List.mem_cons_self))
  have g2 : getD (frameD hs fs rs ps) (.int 2) = some (.lst (sl rs)) := by simp [frameD]
  have g0 : getD (frameD hs fs rs ps) (.int 0) = some (.lst (sl hs)) := by simp [frameD]
  have gr : getD (.lst (sl rs)) (.int 0) = some (.str r0) := by rw [er]; simp [sl]
  have gh : getD (.lst (sl hs)) (.int 0) = some (.str h0) := by rw [eh]; simp [sl]
  have rl := F.rl
  have rlen : 0 < (sl rs).length ∧ (sl rs).length < 1000000 := by
    have : (sl rs).length = rs.length := List.length_map ..
    rw [this]
    refine ⟨by rw [er]; exact Nat.succ_pos _, by omega⟩
  have hb : m_l_pair_right o [frameD hs fs rs ps, settingD hs fs rs ps] = finI (b_l_pair_right (eQ5 o hs fs rs ps none none none none none)) := rfl
  rw [hb, k05q_eq]
  have s0 : k05q0 (eQ5 o hs fs rs ps none none none none none) = .nx (eQ5 o hs fs rs ps (some (.d (.lst (odd5 r0 h0)))) none none none none) := by
    unfold k05q0
    have f2 := at_op (E := eQ5 o hs fs rs ps none none none none none) (at_op (a := mVar 1) (b := mC (.int 2)) rfl rfl g2) (b := mC (.int 0)) rfl gr
    have f0 := at_op (E := eQ5 o hs fs rs ps none none none none none) (at_op (a := mVar 1) (b := mC (.int 0)) rfl rfl g0) (b := mC (.int 0)) rfl gh
    exact st_set (at_lstS (at_cons rfl (at_cons rfl (at_cons (at_tupS at_nil) (at_cons (at_tupS (at_1 rfl)) (at_cons (at_lstS (at_cons rfl (at_1 rfl))) (at_cons (at_tupS (at_cons rfl (at_1 rfl))) (at_cons rfl (at_cons (at_op (at_tupS (at_1 f2)) (b := mC (.int 2)) rfl rfl) (at_1 (at_tupS (at_cons f0 (at_1 f2)))))))))))))
  have hrg : rngD [D.int 9] = some ((List.range 9).map fun k => .int (k : Nat)) := v_range1 (n := 9) (by omega)
  obtain ⟨ys, o1, e1, j1, sel⟩ := lc_eff (it := mRng (mCons (mC (.int 9)) mNil)) (tg := gV 8) (tst := mYes) (elt := mTup (mCons (mCallI 0 m_l_one_of (mCons (mOp getD (mVar 1) (mC (.int 2))) mNil)) (mCons (mCallI 0 m_l_one_of (mCons (mOp getD (mVar 1) (mC (.int 2))) mNil)) mNil))) (vs := [8])
    (env := eQ5 o hs fs rs ps (some (.d (.lst (odd5 r0 h0)))) none none none none) (fun k : Nat => D.int (k : Nat)) (fun p : Str × Str => prD p.1 p.2) (fun o => eQ5 o hs fs rs ps (some (.d (.lst (odd5 r0 h0)))) none none none none) (fun o k => (eQ5 o hs fs rs ps (some (.d (.lst (odd5 r0 h0)))) none none none none).set 8 (some (.d (.int (k : Nat))))) (fun _ _ => True) (fun _ p => p.1 ∈ rs ∧ p.2 ∈ rs) (List.range 9) j (by
      show (mRng (mCons (mC (.int 9)) mNil)) _ = _
      rw [e_rng, e_cons, e_c, Rs.bind_ok, e_nil, Rs.bind_ok, Rs.bind_ok, hrg]
      rfl) (by decide +kernel) rfl rfl fun k _ o jo => by
        refine ⟨rfl, rfl, true, o, jo, trivial, rfl, fun _ => ?_⟩
        obtain ⟨x, oa, hx, ja, da⟩ := draw1 jo (E := (eQ5 o hs fs rs ps (some (.d (.lst (odd5 r0 h0)))) none none none none).set 8 (some (.d (.int (k : Nat))))) (mt := mOp getD (mVar 1) (mC (.int 2))) (xs := sl rs) rfl (at_op (a := mVar 1) (b := mC (.int 2)) rfl rfl g2) rlen.1 rlen.2
        obtain ⟨y, ob, hy, jb, db⟩ := draw1 ja (E := (eQ5 oa hs fs rs ps (some (.d (.lst (odd5 r0 h0)))) none none none none).set 8 (some (.d (.int (k : Nat))))) (mt := mOp getD (mVar 1) (mC (.int 2))) (xs := sl rs) rfl (at_op (a := mVar 1) (b := mC (.int 2)) rfl rfl g2) rlen.1 rlen.2
        obtain ⟨p, hp, rfl⟩ := List.mem_map.mp hx
        obtain ⟨q, hq, rfl⟩ := List.mem_map.mp hy
        exact ⟨(p, q), ob, jb, tup_dr22 da db, hp, hq⟩
  obtain ⟨Y, yl⟩ := sel_all5 (R := fun p : Str × Str => p.1 ∈ rs ∧ p.2 ∈ rs) (fun _ _ h => h) sel
  have yl9 : ys.length ≤ 9 := by rw [List.length_range] at yl; exact yl
  have ll : (odd5 r0 h0 ++ ys.map fun p : Str × Str => prD p.1 p.2).length = 9 + ys.length := by
    rw [List.length_append, List.length_map]
    rfl
  obtain ⟨i, hi, o2, e2, j2⟩ := one_of_ok j1 (xs := odd5 r0 h0 ++ ys.map fun p : Str × Str => prD p.1 p.2) (by omega) (by omega)
  have hd : ∃ t1 u1 t2 u2, PF hs fs rs ps (odd5 r0 h0 ++ ys.map fun p : Str × Str => prD p.1 p.2)[i] t1 u1 t2 u2 := by
    have hm := List.getElem_mem hi
    rcases List.mem_append.mp hm with h | h
    · exact pf_odd F N or0 oh0 h
    · obtain ⟨p, hp, e⟩ := List.mem_map.mp h
      rw [← e]
      obtain ⟨p1, p2⟩ := Y p hp
      exact pfA F N (okT_menu (m2 _ p1)) (okT_menu (m2 _ p2)) (repr_pr (okT_menu (m2 _ p1)) (okT_menu (m2 _ p2)))
  generalize (odd5 r0 h0 ++ ys.map fun p : Str × Str => prD p.1 p.2)[i] = d at e2 hd
  obtain ⟨t1, u1, t2, u2, P⟩ := hd
  have s1 : k05q1 (eQ5 o hs fs rs ps (some (.d (.lst (odd5 r0 h0)))) none none none none) = .nx (eQ5 o2 hs fs rs ps (some (.d (.lst (odd5 r0 h0)))) (some (.d d)) none none none) := by
    unfold k05q1
    refine (dset (callI (ds := [.lst (odd5 r0 h0 ++ ys.map fun p : Str × Str => prD p.1 p.2)]) (e := eQ5 o1 hs fs rs ps (some (.d (.lst (odd5 r0 h0)))) none none none none) (u := o) (o := o1) (o' := o2) rfl ?_ rfl e2)).trans rfl
    have ad := add_dr (a := mVar 3) (E := eQ5 o hs fs rs ps (some (.d (.lst (odd5 r0 h0)))) none none none none) rfl e1 (by rw [List.length_map]; show 9 + ys.length ≤ 1000; omega)
    rw [e_cons, ad, Rs.bind_ok, e_nil, Rs.bind_ok]
  refine ⟨o2, j2, ?_⟩
  rw [e_seq, s0, andThen_nx, e_seq, s1, andThen_nx]
  have e := pair_rest (o := o2) (v3 := some (.d (.lst (odd5 r0 h0)))) (v5 := none) (v6 := none) (v7 := none) P (fr_len F)
  rw [e]
  rfl
end
end Mi
namespace Mi
open PySem DD
open Classical
def eR5 (o : O) (hs : List Str) (fs : LL) (rs : List Str) (ps : List (Str × Str)) (v4 v5 v6 v7 v8 : Option O) : DEnv :=
  [some o, some (.d (frameD hs fs rs ps)), some (.d (settingD hs fs rs ps)), some (.d (.str (pageS hs fs rs ps))), v4, v5, v6, v7, v8]
section
variable {hs : List Str} {fs : LL} {rs : List Str} {ps qs : List (Str × Str)} {E : DEnv} {x y d : D} {a b r0 h0 : Str} {o : O} {v3 v4 v5 v6 v7 v8 : Option O} {ys : List Str}
theorem add_tup5 {a b : List D} (h : a.length + b.length ≤ 100000) : addD (.tup a) (.tup b) = some (.tup (a ++ b)) := by
  show (if a.length + b.length ≤ sizeLine then some (D.tup (a ++ b)) else none) = _
  rw [if_pos (by rw [size_e]; omega)]
theorem rep_tup5 {a : List D} (h : a.length ≤ 1000) : repTD (.tup a) (.int 2) = some (.tup (a ++ a)) := by
  show (if (2 : Int) ≤ 2 ∧ (2 : Int) ≤ 1000 ∧ a.length ≤ 1000 then some (D.tup (List.replicate (2 : Int).toNat a).flatten) else none) = _
  rw [if_pos ⟨by decide, by decide, h⟩]
  have : (List.replicate (2 : Int).toNat a).flatten = a ++ a := by
    show (List.replicate 2 a).flatten = _
    simp [List.replicate]
  rw [this]
/-- some houses, forward or backward -/
theorem some5 (F : Fr hs fs rs ps) (j : Jar o) : ∃ (ys : List Str) (o' : O), Jar o' ∧ (∀ y ∈ ys, y ∈ hs) ∧ ys.length ≤ 8 ∧ k05p3_0 (eR5 o hs fs rs ps v4 v5 v6 v7 v8) = .nx (eR5 o' hs fs rs ps v4 (some (.d (.lst (sl ys)))) v6 v7 v8) := by
  have hl := F.hl
  have g0 : getD (frameD hs fs rs ps) (.int 0) = some (.lst (sl hs)) := by simp [frameD]
  have ll : (sl hs).length = hs.length := List.length_map ..
  obtain ⟨zs, o1, e1, j1, sub⟩ := some_of_ok j (xs := sl hs) (by omega)
  obtain ⟨r, o2, j2, hr, e2⟩ := dip_at j1 (env := eR5 o1 hs fs rs ps v4 v5 v6 v7 v8) rfl (mt := mC (.int 2)) (top := 2) rfl (by decide) (by decide)
  obtain ⟨ws, hw, rfl⟩ : ∃ ws : List Str, ws.Sublist hs ∧ zs = sl ws := by
    obtain ⟨ws, h1, h2⟩ := List.sublist_map_iff.mp sub
    exact ⟨ws, h1, h2⟩
  have c1 : (mCallI 0 m_l_some_of (mCons (mOp getD (mVar 1) (mC (.int 0))) mNil)) (eR5 o hs fs rs ps v4 v5 v6 v7 v8) = .ok (.lst (sl ws)) (eR5 o1 hs fs rs ps v4 v5 v6 v7 v8) := callI (ds := [.lst (sl hs)]) rfl (at_1 (at_op (a := mVar 1) (b := mC (.int 0)) rfl rfl g0)) rfl e1
  have c2 : (mOp subD (mC (.int 1)) (mOp mulD (mC (.int 2)) (mCallI 0 m_l_dip (mCons (mC (.int 2)) mNil)))) (eR5 o1 hs fs rs ps v4 v5 v6 v7 v8) = .ok (.int (1 - 2 * (r : Int))) (eR5 o2 hs fs rs ps v4 v5 v6 v7 v8) := by
    rw [e_op, e_c, Rs.bind_ok, e_op, e_c, Rs.bind_ok, e2, Rs.bind_ok]
    rfl
  have key : ∃ ys : List Str, (∀ y ∈ ys, y ∈ hs) ∧ ys.length ≤ 8 ∧ DD.stepD (.lst (sl ws)) none none (some (1 - 2 * (r : Int))) = some (.lst (sl ys)) := by
    have wl := hw.length_le
    have h2 : r = 0 ∨ r = 1 := by omega
    rcases h2 with rfl | rfl
    · refine ⟨ws, fun y hy => hw.subset hy, by omega, ?_⟩
      show (if (1 : Int) ≠ 0 then some (D.lst (stepL (sl ws) none none 1)) else none) = _
      rw [if_pos (by decide), stepL_one]
    · refine ⟨ws.reverse, fun y hy => hw.subset (List.mem_reverse.mp hy), by rw [List.length_reverse]; omega, ?_⟩
      show (if (-1 : Int) ≠ 0 then some (D.lst (stepL (sl ws) none none (-1))) else none) = _
      rw [if_pos (by decide), stepL_rev]
      unfold sl
      rw [List.map_reverse]
  obtain ⟨ys, h1, h2, h3⟩ := key
  refine ⟨ys, o2, j2, h1, h2, ?_⟩
  unfold k05p3_0
  refine (dset (d := .lst (sl ys)) (E1 := eR5 o2 hs fs rs ps v4 v5 v6 v7 v8) ?_).trans rfl
  unfold mStep
  rw [c1, Rs.bind_ok, e_noPart, Rs.bind_ok, e_noPart, Rs.bind_ok, e_part, c2, Rs.bind_ok, e_asI, Rs.bind_ok, h3]
  rfl
/-- what houses may be asked of -/
def Hs5 (x : D) : Prop := isiD "tuple" x = some (.bl false) ∨ ∃ xs, x = .tup xs ∧ (∀ e ∈ xs, El5 e) ∧ xs.length ≤ 1000
def odds5 (ys : List Str) : List D := [.non, .str "p", .lst (sl ys), .int 3, .dct [] [], .tup (sl ys ++ [.int 3]), .tup ([.str "nobody"] ++ sl ys), .tup (sl ys ++ sl ys), .tup [.str "w"]]
theorem el5_sl (ho : ∀ y ∈ ys, okS y) : ∀ e ∈ sl ys, El5 e := fun e he => by
  obtain ⟨y, hy, rfl⟩ := List.mem_map.mp he
  exact .inl ⟨y, rfl, ho y hy⟩
theorem hs5_odd (ho : ∀ y ∈ ys, okS y) (hl : ys.length ≤ 8) (hx : x ∈ odds5 ys) : Hs5 x := by
  have ll : (sl ys).length = ys.length := List.length_map ..
  have es := el5_sl ho
  have ap : ∀ {xs zs : List D}, (∀ e ∈ xs, El5 e) → (∀ e ∈ zs, El5 e) → ∀ e ∈ xs ++ zs, El5 e := fun h1 h2 e he => by
    rcases List.mem_append.mp he with h | h
    · exact h1 e h
    · exact h2 e h
  unfold odds5 at hx
  simp only [List.mem_cons, List.not_mem_nil, or_false] at hx
  rcases hx with rfl | rfl | rfl | rfl | rfl | rfl | rfl | rfl | rfl
  · exact .inl rfl
  · exact .inl rfl
  · exact .inl rfl
  · exact .inl rfl
  · exact .inl rfl
  · exact .inr ⟨_, rfl, ap es fun e he => by rw [List.mem_singleton.mp he]; exact .inr rfl, by rw [List.length_append]; simp; omega⟩
  · exact .inr ⟨_, rfl, ap (fun e he => by rw [List.mem_singleton.mp he]; exact .inl ⟨"nobody", rfl, by decide +kernel⟩) es, by rw [List.length_append]; simp; omega⟩
  · exact .inr ⟨_, rfl, ap es es, by rw [List.length_append]; omega⟩
  · exact .inr ⟨_, rfl, fun e he => by rw [List.mem_singleton.mp he]; exact .inl ⟨"w", rfl, by decide +kernel⟩, by decide⟩
theorem odd_set (hl : ys.length ≤ 8) : k05p3_1 (eR5 o hs fs rs ps v4 (some (.d (.lst (sl ys)))) v6 v7 v8) = .nx (eR5 o hs fs rs ps v4 (some (.d (.lst (sl ys)))) (some (.d (.lst (odds5 ys)))) v7 v8) := by
  have ll : (sl ys).length = ys.length := List.length_map ..
  unfold k05p3_1
  have tp : At (eR5 o hs fs rs ps v4 (some (.d (.lst (sl ys)))) v6 v7 v8) (mCB tupleD (mCons (mVar 5) mNil)) (.tup (sl ys)) := at_cb (at_1 (m := mVar 5) rfl) rfl
  exact st_set (at_lstS (at_cons rfl (at_cons rfl (at_cons (at_cb (at_1 (m := mVar 5) rfl) (g := listD) rfl) (at_cons rfl (at_cons rfl (at_cons (at_op tp (at_tupS (at_1 (m := mC (.int 3)) rfl)) (add_tup5 (by simp; omega))) (at_cons (at_op (at_tupS (at_1 (m := mC (.str "nobody")) rfl)) tp (add_tup5 (by simp; omega))) (at_cons (at_op tp (b := mC (.int 2)) rfl (rep_tup5 (by omega))) (at_1 (at_tupS (at_1 rfl))))))))))))
theorem turn5 (F : Fr hs fs rs ps) (N : ShortN hs rs) (m1 : ∀ x ∈ hs, x ∈ menu) (m2 : ∀ x ∈ rs, x ∈ menu) (j : Jar o) : ∃ (o' : O) (w5 w6 w7 w8 : Option O), Jar o' ∧ k05p3_b (eR5 o hs fs rs ps v4 v5 v6 v7 v8) = .nx (eR5 o' hs fs rs ps v4 w5 w6 w7 w8) := by
  have oh := (oks F).1
  obtain ⟨ys, o1, j1, hy, hl, s0⟩ := some5 (v4 := v4) (v5 := v5) (v6 := v6) (v7 := v7) (v8 := v8) F j
  have oy : ∀ y ∈ ys, okS y := fun y h => oh y (hy y h)
  have ll : (sl ys).length = ys.length := List.length_map ..
  have s1 := odd_set (o := o1) (hs := hs) (fs := fs) (rs := rs) (ps := ps) (v4 := v4) (v6 := v6) (v7 := v7) (v8 := v8) hl
  obtain ⟨x, o3, j3, hx, s2⟩ : ∃ (x : D) (o3 : O), Jar o3 ∧ Hs5 x ∧ k05p3_2 (eR5 o1 hs fs rs ps v4 (some (.d (.lst (sl ys)))) (some (.d (.lst (odds5 ys)))) v7 v8) = .nx (eR5 o3 hs fs rs ps v4 (some (.d x)) (some (.d (.lst (odds5 ys)))) v7 v8) := by
    obtain ⟨r, o2, j2, hr, e2⟩ := dip_at j1 (env := eR5 o1 hs fs rs ps v4 (some (.d (.lst (sl ys)))) (some (.d (.lst (odds5 ys)))) v7 v8) rfl (mt := mC (.int 3)) (top := 3) rfl (by decide) (by decide)
    have t : (mTest (mOp gtD (mCallI 0 m_l_dip (mCons (mC (.int 3)) mNil)) (mC (.int 0)))) (eR5 o1 hs fs rs ps v4 (some (.d (.lst (sl ys)))) (some (.d (.lst (odds5 ys)))) v7 v8) = .ok (decide ((r : Int) > 0)) (eR5 o2 hs fs rs ps v4 (some (.d (.lst (sl ys)))) (some (.d (.lst (odds5 ys)))) v7 v8) := by
      rw [e_test, e_op, e2, Rs.bind_ok, e_c, Rs.bind_ok]
      rfl
    by_cases q : (r : Int) > 0
    · rw [decide_eq_true q] at t
      refine ⟨.tup (sl ys), o2, j2, .inr ⟨_, rfl, el5_sl oy, by omega⟩, ?_⟩
      unfold k05p3_2
      refine (dset (d := .tup (sl ys)) (E1 := eR5 o2 hs fs rs ps v4 (some (.d (.lst (sl ys)))) (some (.d (.lst (odds5 ys)))) v7 v8) ?_).trans rfl
      rw [e_if, t, Rs.bind_ok, if_pos rfl]
      exact at_cb (at_1 (m := mVar 5) rfl) rfl
    · rw [decide_eq_false q] at t
      obtain ⟨x, o3, hx, j3, d3⟩ := draw1 j2 (E := eR5 o2 hs fs rs ps v4 (some (.d (.lst (sl ys)))) (some (.d (.lst (odds5 ys)))) v7 v8) (mt := mVar 6) (xs := odds5 ys) rfl rfl (by show 0 < 9; omega) (by show 9 < 1000000; omega)
      refine ⟨x, o3, j3, hs5_odd oy hl hx, ?_⟩
      unfold k05p3_2
      refine (dset (d := x) (E1 := eR5 o3 hs fs rs ps v4 (some (.d (.lst (sl ys)))) (some (.d (.lst (odds5 ys)))) v7 v8) ?_).trans rfl
      rw [e_if, t, Rs.bind_ok, if_neg Bool.false_ne_true]
      exact d3
  obtain ⟨t, u, ot, ou, fd, ask⟩ := ask_h5 F hx
  have a := fun E => ask E (mVar 2) (mVar 5)
  have s3 : k05p3_3 (eR5 o3 hs fs rs ps v4 (some (.d x)) (some (.d (.lst (odds5 ys)))) v7 v8) = .nx (eR5 o3 hs fs rs ps v4 (some (.d x)) (some (.d (.lst (odds5 ys)))) (some (.d (.lst [.str t, .str u]))) v8) := by
    unfold k05p3_3
    exact st_set (at_call (at_cons (m := mVar 1) rfl (at_1 (m := mVar 5) rfl)) fd)
  have s4 : k05p3_4 (eR5 o3 hs fs rs ps v4 (some (.d x)) (some (.d (.lst (odds5 ys)))) (some (.d (.lst [.str t, .str u]))) v8) = .nx (eR5 o3 hs fs rs ps v4 (some (.d x)) (some (.d (.lst (odds5 ys)))) (some (.d (.lst [.str t, .str u]))) (some (oL [.lst [.str t, .str u]]))) := by
    unfold k05p3_4
    exact (setO_S (o := oL [.lst [.str t, .str u]]) (lstO_S (at_1 (a _ rfl rfl).1))).trans rfl
  have s5 : k05p3_5 (eR5 o3 hs fs rs ps v4 (some (.d x)) (some (.d (.lst (odds5 ys)))) (some (.d (.lst [.str t, .str u]))) (some (oL [.lst [.str t, .str u]]))) = .nx (eR5 o3 hs fs rs ps v4 (some (.d x)) (some (.d (.lst (odds5 ys)))) (some (.d (.lst [.str t, .str u]))) (some (oL [.lst [.str t, .str u], .lst [.str t, .str u]]))) := by
    unfold k05p3_5
    refine (e_app (os := [D.lst [.str t, .str u]].map .d) ⟨_, rfl⟩ (a _ rfl rfl).2 rfl (by show 1 < sizeLine; decide +kernel)).trans ?_
    rfl
  have s6 : k05p3_6 (eR5 o3 hs fs rs ps v4 (some (.d x)) (some (.d (.lst (odds5 ys)))) (some (.d (.lst [.str t, .str u]))) (some (oL [.lst [.str t, .str u], .lst [.str t, .str u]]))) = .nx (eR5 o3 hs fs rs ps v4 (some (.d x)) (some (.d (.lst (odds5 ys)))) (some (.d (.lst [.str t, .str u]))) (some (oL [.lst [.str t, .str u], .lst [.str t, .str u]]))) := by
    unfold k05p3_6
    exact st_ifF (at_test (opL_at (u := false) (ds := [.lst [.str t, .str u], .lst [.str t, .str u]]) rfl (at_lstS (at_cons (m := mVar 7) rfl (at_1 (m := mVar 7) rfl))) (ne_self (four_pl ot ou))))
  obtain ⟨o4, j4, e4⟩ := pair_right5 F N m1 m2 j3
  have s7 : k05p3_7 (eR5 o3 hs fs rs ps v4 (some (.d x)) (some (.d (.lst (odds5 ys)))) (some (.d (.lst [.str t, .str u]))) (some (oL [.lst [.str t, .str u], .lst [.str t, .str u]]))) = .nx (eR5 o4 hs fs rs ps v4 (some (.d x)) (some (.d (.lst (odds5 ys)))) (some (.d (.lst [.str t, .str u]))) (some (oL [.lst [.str t, .str u], .lst [.str t, .str u]]))) := by
    unfold k05p3_7
    have c := callI (i := 0) (f := m_l_pair_right) (m := mCons (mVar 1) (mCons (mVar 2) mNil)) (env := eR5 o3 hs fs rs ps v4 (some (.d x)) (some (.d (.lst (odds5 ys)))) (some (.d (.lst [.str t, .str u]))) (some (oL [.lst [.str t, .str u], .lst [.str t, .str u]]))) (ds := [frameD hs fs rs ps, settingD hs fs rs ps]) rfl rfl rfl e4
    rw [e_ifS, e_not, e_test, c, Rs.bind_ok]
    rfl
  refine ⟨o4, some (.d x), some (.d (.lst (odds5 ys))), some (.d (.lst [.str t, .str u])), some (oL [.lst [.str t, .str u], .lst [.str t, .str u]]), j4, ?_⟩
  unfold k05p3_b
  rw [e_seq, s0, andThen_nx, e_seq, s1, andThen_nx, e_seq, s2, andThen_nx, e_seq, s3, andThen_nx, e_seq, s4, andThen_nx, e_seq, s5, andThen_nx, e_seq, s6, andThen_nx]
  exact s7
end
theorem k05_right {o : O} (h : Jar o) : ∃ o', m_k05_l_right o [] = .ok (.bl true) o' := by
  have hb : m_k05_l_right o [] = finI (b_k05_l_right [some o, none, none, none, none, none, none, none, none]) := rfl
  rw [hb, k05p_eq]
  obtain ⟨d, o1, h1, j1, hs, fs, rs, ps, rfl, F, m1, m2, m3, m4⟩ := frame_at h (a := 6) (b := 4) (by omega) (by omega) (by omega) (by omega)
  have N : ShortN hs rs := ⟨fun x hx => menu_len x (m1 x hx), fun x hx => menu_len x (m2 x hx)⟩
  have c1 := callI (i := 0) (f := m_l_frame) (m := mCons (mC (.int 6)) (mCons (mC (.int 4)) mNil)) (env := [some o, none, none, none, none, none, none, none, none]) (e := [some o, none, none, none, none, none, none, none, none]) (ds := [.int 6, .int 4]) rfl rfl rfl h1
  have s0 : k05p0 [some o, none, none, none, none, none, none, none, none] = .nx [some o1, some (.d (frameD hs fs rs ps)), none, none, none, none, none, none, none] := dset c1
  have s1 : k05p1 [some o1, some (.d (frameD hs fs rs ps)), none, none, none, none, none, none, none] = .nx [some o1, some (.d (frameD hs fs rs ps)), some (.d (settingD hs fs rs ps)), none, none, none, none, none, none] := st_set (built_at F (i := 1) rfl)
  have s2 : k05p2 [some o1, some (.d (frameD hs fs rs ps)), some (.d (settingD hs fs rs ps)), none, none, none, none, none, none] = .nx (eR5 o1 hs fs rs ps none none none none none) := st_set (str_at02 F N (m := mVar 2) rfl)
  have hrg : rngD [D.int 8] = some ((List.range 8).map fun k => .int (k : Nat)) := v_range1 (n := 8) (by omega)
  obtain ⟨e, g3, o', v4, v5, v6, v7, v8, j, rfl⟩ := forM_inv (tg := gV 4) (body := k05p3_b)
    (fun _ env => ∃ (o' : O) (v4 v5 v6 v7 v8 : Option O), Jar o' ∧ env = eR5 o' hs fs rs ps v4 v5 v6 v7 v8) (fun d ds env hI => by
      obtain ⟨o', v4, v5, v6, v7, v8, j, rfl⟩ := hI
      obtain ⟨o3, w5, w6, w7, w8, j3, st⟩ := turn5 (v4 := some (.d d)) (v5 := v5) (v6 := v6) (v7 := v7) (v8 := v8) F N m1 m2 j
      exact ⟨_, _, rfl, .inl st, o3, _, _, _, _, _, j3, rfl⟩) ((List.range 8).map fun k => .int (k : Nat)) (eR5 o1 hs fs rs ps none none none none none) ⟨o1, _, _, _, _, _, j1, rfl⟩
  have s3 : k05p3 (eR5 o1 hs fs rs ps none none none none none) = .nx (eR5 o' hs fs rs ps v4 v5 v6 v7 v8) := by
    unfold k05p3
    refine st_for ?_ g3
    show (mRng (mCons (mC (.int 8)) mNil)) _ = _
    rw [e_rng, e_cons, e_c, Rs.bind_ok, e_nil, Rs.bind_ok, Rs.bind_ok, hrg]
    rfl
  have s4 : k05p4 (eR5 o' hs fs rs ps v4 v5 v6 v7 v8) = .rt (.bl true) (eR5 o' hs fs rs ps v4 v5 v6 v7 v8) := st_ret (at_op (str_at02 F N (m := mVar 2) rfl) (b := mVar 3) rfl (eq_self' (okS_plN (page_ok F))))
  refine ⟨o', ?_⟩
  rw [e_seq, s0, andThen_nx, e_seq, s1, andThen_nx, e_seq, s2, andThen_nx, e_seq, s3, andThen_nx, s4]
  rfl
theorem k05_law_true (ns : List Int) (hn : ns.length ≤ 63) : m_k05_law [.scr ns] = .ok (.bl true) := law_top (fun _ h => k05_right h) 6 (by omega) ns
end Mi
set_option maxHeartbeats 200000
set_option maxHeartbeats 0
open PySem PySem.W PySem.Calls PyProof.Rows
theorem PySem.Challenge.cw_readonce_k05_falls_and_promises_more_or_holds : PySem.Challenge.rw_readonce_k05_falls_and_promises_more_or.Holds := by
  w_on; o_law
  refine HandSHeadRun.head_any (r := OpenLaw.row PySem.Challenge.rw_readonce_k05_falls_and_promises_more_or) (q := view (OpenLaw.row PySem.Challenge.rw_readonce_k05_falls_and_promises_more_or).prog [44]) (H := Law_k05.hk) (ob := Law_k05.ob) (M := 16000) (loose := Law_k05.loose) (d := HandSHeadRun.topDef (OpenLaw.row PySem.Challenge.rw_readonce_k05_falls_and_promises_more_or).prog 44) (kwd := []) Law_k05.ob_eq
    (by kernel_rfl) (fun s => by kernel_rfl) Law_k05.run (by kernel_rfl) (by kernel_rfl) (by kernel_rfl) (by rfl) (by first | assumption | decide +kernel) (by decide +kernel) ⟨rfl, rfl, rfl, rfl, rfl, by decide +kernel⟩ ?hw ?hc
  case hw => w_witness2
  case hc =>
    refine DD.walk_ofWT (l := PySem.Challenge.rw_readonce_k05_falls_and_promises_more_or) (n := 63) (k := 12) (x := "_law_cells") rfl (by decide) (by kernel_rfl) ⟨rfl, by decide, by decide⟩ ?F
    intro w mg fa h Y G hmg0
    obtain ⟨K, KX, c, tb, mk, em⟩ := Y
    have hmg : mg ("law" : PySem.Str) = some (.ref fa) := by
      have e : (HandSHeadRun.topDef (OpenLaw.row PySem.Challenge.rw_readonce_k05_falls_and_promises_more_or).prog 44).name = ("law" : PySem.Str) := by kernel_rfl
      rw [← e]
      exact hmg0
    obtain ⟨fa2, fd, e, hb, hF⟩ := Law_k05.facts (P := (PySem.Challenge.rw_readonce_k05_falls_and_promises_more_or).prog) (w := w) KX G c
    rw [hmg] at e
    cases e
    exact ⟨K, _, fd, _, KX, DD.tabsAt_of KX mk em, hb, fun H a ns hl hO hT hS => DD.law_endT mk hO hT hS (Mi.k05_law_true ns hl), fun base _ _ TB => hF base (DD.tabsB_of TB)⟩
