import PyProof.Rows.All
import Wide.All
import OpenK.AllK
import Wide.FinOn
import HandS.Base
import HandS.Call
import HandS.List
import HandS.Comp
import HandS.Exc
import HandS.Lambda
import HandS.ExcOwn
import HandS.Iter
import HandS.Ends
import HandS.Defaults
import HandS.Property
import HandS.Deep
import HandS.TupAny
import HandS.Text
import HandS.Strs
import HandS.IsInst
import HandS.RaiseMore
import KE.GoesMore
import HandS.Star
import HandS.Head0
import HandS.Head1
import HandS.Head2
import HandS.HeadEnd
import HandS.HeadHook1
import HandS.HeadHook2
import HandS.Words
import HandS.WordsExc
import HandS.MakeKwOnly
import HandS.DictComp
import HandS.Conv
import HandS.More
import HandS.Style
import HandS.DictEq
import PyProof.AttrMissHeap
import KE.DatumOrd
import HandS.TupLe
import PyProof.SumWalk
import HandS.HeadHook3
import HandS.ListItems
import KE.KDictItemsList
import KE.RegKCallOwn
import HandS.FStr
import HandS.TryOnly
import HandS.NoneIn
import HandS.ExcInit
import HandS.ExcField
import HandS.Codes
import KE.KExcInit
import HandS.HotCalls
import HandS.TryMany
import HandS.SetFor
import HandS.ClsMeth
import HandS.TupMul
import PyProof.EqAt
import HandS.SortKw
import KE.KDictWalk
import HandS.ExcIs
import PyProof.ReprReads
import HandS.Wide
import PyProof.ListStr
import KE.SortKeyHeap
import HandS.ExcValue
import PyProof.ReprLen
import PySem.Challenge.RW_readonce_k01_limits_and_errors
section
set_option Elab.async false
set_option linter.all false
set_option maxRecDepth 100000
set_option maxHeartbeats 200000
namespace DD
open PySem L2
inductive D where
  | non | bl (b : Bool) | int (i : Int) | str (s : Str)
  | tup (ds : List D) | lst (ds : List D)
  /-- a tuple that need not be a known one -/
  | wtp (ds : List D)
  | dct (ks : List Key) (ds : List D)
  | dtt (ks : List (List Key)) (ds : List D)
  | ins (C : Str) (ns : List Str) (ds : List D)
  /-- a caught exception: its class, its dict -/
  | exn (C : Str) (ns : List Str) (ds : List D)
  /-- the script -/
  | scr (ns : List Int)
inductive O where
  | d (x : D)
  | lst (os : List O)
  | dct (ks : List Key) (os : List O)
  | dtt (ks : List (List Key)) (os : List O)
  | ins (C : Str) (ns : List Str) (os : List O)
def cadr (K : PySem.W.Frag) (x : Str) : Addr := match PySem.W.nsIn K mainGlobals x with
  | some (some (.ref a)) => a
  | _ => 0
/-- the old stands in the new -/
def Ex (H H' : Hp) : Prop := ∀ a o, H a = some o → H' a = some o
theorem Ex.refl (H : Hp) : Ex H H := fun _ _ h => h
theorem Ex.trans {H H1 H2 : Hp} (a : Ex H H1) (b : Ex H1 H2) : Ex H H2 := fun x o h => b x o (a x o h)
theorem Ex.new {H : Hp} {p : Addr} {o : HO} (h : H p = none) : Ex H (upd H p o) := fun a u e => by
  rw [upd_ne (ne_of_none e h)]
  exact e
/-- a code object's table -/
def isTb : HO → Bool
  | .tbl _ => true
  | _ => false
/-- at P stands a code object's table: all its codes bear the name q -/
def TabF (F H : Hp) (P : Addr) (q : Str) : Prop := ∃ ps : Array Value, H P = some (.tbl ps) ∧ TriplesOk ps.toList ∧ ∀ (pos : Pos) (cv : Value), codeAmong pos ps.toList = some cv → ∃ c, cv = .ref c ∧ F c = some (LamX.CodeO c q)
/-- the ground stands in the heap, but for tables -/
structure FA (F H : Hp) : Prop where
  at_ : ∀ a o, F a = some o → isTb o = false → H a = some o
/-- .. where it names a table, the heap has one -/
structure FH (F H : Hp) : Prop extends FA F H where
  tb : ∀ a ps, F a = some (.tbl ps) → ∃ q t, ps = #[.str q t] ∧ TabF F H a q
theorem FA.rd {F H : Hp} {a : Addr} {u : HO} (e : FA F H) (h : Rd F a u) (n : isTb u = false := by rfl) : Rd H a u := by
  rcases h with h | ⟨o, h⟩
  · exact Or.inl (e.at_ a _ h n)
  · exact Or.inr ⟨o, e.at_ a _ h rfl⟩
theorem FA.l {K : PySem.W.Frag} {F H : Hp} {a : Addr} {xs : List V} (e : FA F H) (h : SqL K F a xs) : SqL K H a xs := by
  rcases h with h | h
  · exact Or.inl (e.rd h)
  · exact Or.inr h
theorem FA.of {F F' H : Hp} (f : Ex F F') (e : FA F' H) : FA F H := ⟨fun a o h n => e.at_ a o (f a o h) n⟩
theorem FH.no {F H : Hp} {a : Addr} (e : FH F H) (h : H a = none) : F a = none := by
  cases q : F a with
  | none => rfl
  | some u =>
    cases u with
    | tbl ps =>
      obtain ⟨q', t, _, ps', h', _⟩ := e.tb a ps q
      rw [h] at h'
      cases h'
    | _ =>
      have := e.at_ a _ q rfl
      rw [h] at this
      cases this
/-- the heap changes, but not where the ground is -/
theorem FH.to {F H H' : Hp} (e : FH F H) (k : ∀ a, F a ≠ none → H' a = H a) : FH F H' := by
  refine ⟨⟨fun a o h n => by rw [k a (by rw [h]; simp)]; exact e.at_ a o h n⟩, fun a ps h => ?_⟩
  obtain ⟨q, t, e1, ps', h1, h2, h3⟩ := e.tb a ps h
  exact ⟨q, t, e1, ps', by rw [k a (by rw [h]; simp)]; exact h1, h2, h3⟩
theorem FH.upd {F H : Hp} {a : Addr} {o : HO} (e : FH F H) (h : F a = none) : FH F (L2.upd H a o) := e.to fun b hb => upd_ne fun z => hb (by rw [z, h])
/-- ground and heap grow at one place -/
theorem FH.new {F H : Hp} {p : Addr} {o : HO} (e : FH F H) (hp : H p = none) (n : isTb o = false) : FH (L2.upd F p o) (L2.upd H p o) := by
  have hF := e.no hp
  refine ⟨⟨fun a u h nu => ?_⟩, fun a ps h => ?_⟩
  · by_cases z : a = p
    · subst z
      rw [upd_same] at h ⊢
      exact h
    · rw [upd_ne z] at h ⊢
      exact e.at_ a u h nu
  · by_cases z : a = p
    · subst z
      rw [upd_same] at h
      cases h
      cases n
    · rw [upd_ne z] at h
      obtain ⟨q, t, e1, ps', h1, h2, h3⟩ := e.tb a ps h
      refine ⟨q, t, e1, ps', by rw [upd_ne z]; exact h1, h2, fun pos cv hc => ?_⟩
      obtain ⟨c, e2, e3⟩ := h3 pos cv hc
      exact ⟨c, e2, by rw [upd_ne (ne_of_none e3 hF)]; exact e3⟩
theorem ex_rd {H H' : Hp} {a : Addr} {u : HO} (e : Ex H H') (h : Rd H a u) : Rd H' a u := by
  rcases h with h | ⟨o, h⟩
  · exact Or.inl (e a _ h)
  · exact Or.inr ⟨o, e a _ h⟩
theorem ex_l {K : PySem.W.Frag} {H H' : Hp} {a : Addr} {xs : List V} (e : Ex H H') (h : SqL K H a xs) : SqL K H' a xs := by
  rcases h with h | h
  · exact Or.inl (ex_rd e h)
  · exact Or.inr h
/-- what the heap says of a caught exception -/
def ExnOk (c : Value) (a : Addr) (dd : Option Addr) : Heap → Prop := fun h => ∃ (oe : Obj) (vs : Array Value), h.get? a = some oe ∧ oe.cls = c ∧ oe.dict = dd ∧ oe.data = .fields vs
mutual
def Den (K : PySem.W.Frag) (F : Hp) : D → V → Prop
  | .non, v => v = .non
  | .bl b, v => v = .bl b
  | .int i, v => v = .int i
  | .str s, v => v = .str s
  | .tup ds, v => ∃ a o vs, v = .ref a ∧ F a = some (.frz o (.tup vs)) ∧ o.dict = none ∧ Dens K F ds vs
  | .lst ds, v => ∃ a vs, v = .ref a ∧ Rd F a (.lst vs) ∧ Dens K F ds vs
  | .wtp ds, v => ∃ a vs, v = .ref a ∧ F a = some (.tup vs) ∧ Dens K F ds vs
  | .dct ks ds, v => ∃ a o vs, v = .ref a ∧ F a = some (.frz o (.dK (ks.zip vs))) ∧ ks.length = vs.length ∧ Dens K F ds vs
  | .dtt ks ds, v => ∃ a o vs, v = .ref a ∧ F a = some (.frz o (.dT (ks.zip vs))) ∧ ks.length = vs.length ∧ Dens K F ds vs
  | .ins C ns ds, v => ∃ a dx vs, v = .ref a ∧ F a = some (.ins (cadr K C) dx (ns.zip vs)) ∧ ns.length = vs.length ∧ Dens K F ds vs
  | .exn C ns ds, v => ∃ a dd, v = .ref a ∧ F a = some (.ext (ExnOk (.ref (cadr K C)) a dd)) ∧ ((ns = [] ∧ ds = [] ∧ dd = none) ∨ ∃ d vs, dd = some d ∧ F d = some (.xd (ns.zip vs)) ∧ ns.length = vs.length ∧ Dens K F ds vs)
  | .scr ns, v => ∃ a, v = .ref a ∧ SqL K F a (ns.map V.int)
def Dens (K : PySem.W.Frag) (F : Hp) : List D → List V → Prop
  | [], vs => vs = []
  | d :: ds, vs => ∃ x xs, vs = x :: xs ∧ Den K F d x ∧ Dens K F ds xs
end
mutual
theorem Den.mono {K : PySem.W.Frag} {F F' : Hp} (e : Ex F F') : ∀ (d : D) (v : V), Den K F d v → Den K F' d v
  | .non, v, h => h
  | .bl _, v, h => h
  | .int _, v, h => h
  | .str _, v, h => h
  | .tup ds, v, ⟨a, o, vs, r, s, z, t⟩ => ⟨a, o, vs, r, e _ _ s, z, Dens.mono e ds vs t⟩
  | .lst ds, v, ⟨a, vs, r, s, t⟩ => ⟨a, vs, r, ex_rd e s, Dens.mono e ds vs t⟩
  | .wtp ds, v, ⟨a, vs, r, s, t⟩ => ⟨a, vs, r, e _ _ s, Dens.mono e ds vs t⟩
  | .dct ks ds, v, ⟨a, o, vs, r, s, l, t⟩ => ⟨a, o, vs, r, e _ _ s, l, Dens.mono e ds vs t⟩
  | .dtt ks ds, v, ⟨a, o, vs, r, s, l, t⟩ => ⟨a, o, vs, r, e _ _ s, l, Dens.mono e ds vs t⟩
  | .ins C ns ds, v, ⟨a, dx, vs, r, s, l, t⟩ => ⟨a, dx, vs, r, e _ _ s, l, Dens.mono e ds vs t⟩
  | .exn C ns ds, v, ⟨a, dd, r, s, t⟩ => ⟨a, dd, r, e _ _ s, t.elim Or.inl fun ⟨d, vs, h1, h2, h3, h4⟩ => Or.inr ⟨d, vs, h1, e _ _ h2, h3, Dens.mono e ds vs h4⟩⟩
  | .scr ns, v, ⟨a, r, s⟩ => ⟨a, r, ex_l e s⟩
theorem Dens.mono {K : PySem.W.Frag} {F F' : Hp} (e : Ex F F') : ∀ (ds : List D) (vs : List V), Dens K F ds vs → Dens K F' ds vs
  | [], vs, h => h
  | d :: ds, vs, ⟨x, xs, r, s, t⟩ => ⟨x, xs, r, Den.mono e d x s, Dens.mono e ds xs t⟩
end
/-- the same, a tuple at the outside need not be a known one -/
def Denw (K : PySem.W.Frag) (F : Hp) (d : D) (v : V) : Prop := Den K F d v ∨ ∃ ds a vs, d = .tup ds ∧ v = .ref a ∧ Rd F a (.tup vs) ∧ Dens K F ds vs
theorem Denw.mono {K : PySem.W.Frag} {F F' : Hp} (e : Ex F F') {d : D} {v : V} (h : Denw K F d v) : Denw K F' d v := by
  rcases h with h | ⟨ds, a, vs, h1, h2, h3, h4⟩
  · exact .inl (Den.mono e d v h)
  · exact .inr ⟨ds, a, vs, h1, h2, ex_rd e h3, Dens.mono e ds vs h4⟩
theorem Denw.tup {K : PySem.W.Frag} {F : Hp} {ds : List D} {v : V} (h : Denw K F (.tup ds) v) : ∃ a vs, v = .ref a ∧ Rd F a (.tup vs) ∧ Dens K F ds vs := by
  rcases h with ⟨a, o, vs, h1, h2, _, h3⟩ | ⟨ds', a, vs, h1, h2, h3, h4⟩
  · exact ⟨a, vs, h1, .inr ⟨o, h2⟩, h3⟩
  · cases h1
    exact ⟨a, vs, h2, h3, h4⟩
/-- weak, or not -/
abbrev Denb (wk : Bool) (K : PySem.W.Frag) (F : Hp) (d : D) (v : V) : Prop := if wk = true then Denw K F d v else Den K F d v
theorem Denb.mono {wk : Bool} {K : PySem.W.Frag} {F F' : Hp} (e : Ex F F') {d : D} {v : V} (h : Denb wk K F d v) : Denb wk K F' d v := by
  cases wk with
  | true => exact Denw.mono e h
  | false => exact Den.mono e d v h
theorem Den.tup {K : PySem.W.Frag} {F : Hp} {ds : List D} {v : V} (h : Den K F (.tup ds) v) : ∃ a vs, v = .ref a ∧ Rd F a (.tup vs) ∧ Dens K F ds vs := Denw.tup (.inl h)
section
variable {K : PySem.W.Frag} {F : Hp}
theorem dens_nil : Dens K F [] [] := rfl
theorem dens_cons {d : D} {ds : List D} {x : V} {xs : List V} (h : Den K F d x) (t : Dens K F ds xs) : Dens K F (d :: ds) (x :: xs) := ⟨x, xs, rfl, h, t⟩
theorem Dens.length : ∀ {ds : List D} {vs : List V}, Dens K F ds vs → ds.length = vs.length
  | [], vs, h => by
    have h' : vs = [] := h
    subst h'
    rfl
  | d :: ds, vs, ⟨x, xs, r, s, t⟩ => by
    subst r
    rw [List.length_cons, List.length_cons, Dens.length t]
theorem Dens.get : ∀ {ds : List D} {vs : List V} {i : Nat} {d : D}, Dens K F ds vs → ds[i]? = some d → ∃ v, vs[i]? = some v ∧ Den K F d v
  | [], vs, i, d, h, e => by simp at e
  | d :: ds, vs, 0, d', ⟨x, xs, r, s, t⟩, e => by
    have e' : d = d' := by simpa using e
    subst e' r
    exact ⟨x, rfl, s⟩
  | d :: ds, vs, i + 1, d', ⟨x, xs, r, s, t⟩, e => by
    subst r
    obtain ⟨v, h1, h2⟩ := Dens.get (i := i) (d := d') t (by simpa using e)
    exact ⟨v, by simpa using h1, h2⟩
theorem Dens.append : ∀ {ds es : List D} {vs ws : List V}, Dens K F ds vs → Dens K F es ws → Dens K F (ds ++ es) (vs ++ ws)
  | [], es, vs, ws, h, k => by
    have h' : vs = [] := h
    subst h'
    exact k
  | d :: ds, es, vs, ws, ⟨x, xs, r, s, t⟩, k => by
    subst r
    exact ⟨x, xs ++ ws, rfl, s, Dens.append t k⟩
theorem Dens.reverse : ∀ {ds : List D} {vs : List V}, Dens K F ds vs → Dens K F ds.reverse vs.reverse
  | [], vs, h => by
    have h' : vs = [] := h
    subst h'
    exact rfl
  | d :: ds, vs, ⟨x, xs, r, s, t⟩ => by
    subst r
    rw [List.reverse_cons, List.reverse_cons]
    exact Dens.append (Dens.reverse t) (dens_cons s dens_nil)
theorem Dens.set : ∀ {ds : List D} {vs : List V} (i : Nat) {d : D} {v : V}, Dens K F ds vs → Den K F d v → Dens K F (ds.set i d) (vs.set i v)
  | [], vs, i, d, v, h, k => by
    have h' : vs = [] := h
    subst h'
    exact rfl
  | _ :: ds, vs, 0, d, v, ⟨x, xs, r, s, t⟩, k => by
    subst r
    exact ⟨v, xs, rfl, k, t⟩
  | _ :: ds, vs, i + 1, d, v, ⟨x, xs, r, s, t⟩, k => by
    subst r
    exact ⟨x, _, rfl, s, Dens.set i t k⟩
end
/-- the defs of a law that may make lambdas; the defs that get them -/
def makers : List Str := ["_law_right", "_law_pair_right", "_law_tells_right", "_law_asked_right", "sets_of", "_law_refused_right", "_law_acted", "_law_twice_right", "_law_one_call", "_law_calls_right", "_law_by_single", "_law_call_right"]
def lamNames : List Str := ["_law_heard", "_law_caught", "_law_ended", "sets_of"]
def lamK (K : PySem.W.Frag) : Bool := lamNames.any fun x => match PySem.W.nsIn K mainGlobals x with
  | some (some _) => true
  | _ => false
/-- the code object of the def that a name stands for, and its table -/
def codA (K : PySem.W.Frag) (x : Str) : Option Addr := match K.lookup (cadr K x) with
  | some ⟨_, _, .func fd, _⟩ => (match fd.code with
    | Value.ref c => some c
    | _ => none)
  | _ => none
def tabA (K : PySem.W.Frag) (x : Str) : Option Addr := (codA K x).bind fun c => match K.lookup c with
  | some ⟨_, _, .fields vs, _⟩ => (match vs[11]? with
    | some (Value.ref P) => some P
    | _ => none)
  | _ => none
def lamQ (x : Str) : Str := x ++ ".<locals>." ++ "<lambda>"
/-- where lambdas are made, the ground names the tables -/
def MkF (K : PySem.W.Frag) (F : Hp) : Prop := lamK K = true → ∀ x ∈ makers, ∀ P, tabA K x = some P → ∃ t, F P = some (.tbl #[.str (lamQ x) t])
theorem MkF.mono {K : PySem.W.Frag} {F F' : Hp} (m : MkF K F) (e : Ex F F') : MkF K F' := fun h x hx P hP => by
  obtain ⟨t, q⟩ := m h x hx P hP
  exact ⟨t, e _ _ q⟩
theorem MkF.no {K : PySem.W.Frag} {F : Hp} (h : lamK K = false) : MkF K F := fun q => by rw [h] at q; cases q
structure FHK (K : PySem.W.Frag) (F H : Hp) : Prop extends FH F H where
  mks : MkF K F
mutual
def OwnAt (K : PySem.W.Frag) (F H : Hp) : O → V → List Addr → Prop
  | .d x, v, fp => Den K F x v ∧ fp = []
  | .lst os, v, fp => ∃ a vs fp', v = .ref a ∧ fp = a :: fp' ∧ H a = some (.lst vs) ∧ OwnsAt K F H os vs fp'
  | .dct ks os, v, fp => ∃ a vs fp', v = .ref a ∧ fp = a :: fp' ∧ H a = some (.dK (ks.zip vs)) ∧ ks.length = vs.length ∧ OwnsAt K F H os vs fp'
  | .dtt ks os, v, fp => ∃ a vs fp', v = .ref a ∧ fp = a :: fp' ∧ H a = some (.dT (ks.zip vs)) ∧ ks.length = vs.length ∧ OwnsAt K F H os vs fp'
  | .ins C ns os, v, fp => ∃ a dx vs fp', v = .ref a ∧ fp = a :: fp' ∧ H a = some (.ins (cadr K C) dx (ns.zip vs)) ∧ ns.length = vs.length ∧ OwnsAt K F H os vs fp'
def OwnsAt (K : PySem.W.Frag) (F H : Hp) : List O → List V → List Addr → Prop
  | [], vs, fp => vs = [] ∧ fp = []
  | o :: os, vs, fp => ∃ x xs f1 f2, vs = x :: xs ∧ fp = f1 ++ f2 ∧ OwnAt K F H o x f1 ∧ OwnsAt K F H os xs f2
end
mutual
theorem OwnAt.mono {K : PySem.W.Frag} {F F' H H' : Hp} (e : Ex F F') : ∀ (o : O) (v : V) (fp : List Addr), (∀ a ∈ fp, H' a = H a) → OwnAt K F H o v fp → OwnAt K F' H' o v fp
  | .d x, v, fp, _, ⟨h, r⟩ => ⟨Den.mono e x v h, r⟩
  | .lst os, v, fp, k, ⟨a, vs, fp', r, s, h, t⟩ => ⟨a, vs, fp', r, s, (k a (by rw [s]; exact List.mem_cons_self)).trans h, OwnsAt.mono e os vs fp' (fun b hb => k b (by rw [s]; exact List.mem_cons_of_mem _ hb)) t⟩
  | .dct ks os, v, fp, k, ⟨a, vs, fp', r, s, h, l, t⟩ => ⟨a, vs, fp', r, s, (k a (by rw [s]; exact List.mem_cons_self)).trans h, l, OwnsAt.mono e os vs fp' (fun b hb => k b (by rw [s]; exact List.mem_cons_of_mem _ hb)) t⟩
  | .dtt ks os, v, fp, k, ⟨a, vs, fp', r, s, h, l, t⟩ => ⟨a, vs, fp', r, s, (k a (by rw [s]; exact List.mem_cons_self)).trans h, l, OwnsAt.mono e os vs fp' (fun b hb => k b (by rw [s]; exact List.mem_cons_of_mem _ hb)) t⟩
  | .ins C ns os, v, fp, k, ⟨a, dx, vs, fp', r, s, h, l, t⟩ => ⟨a, dx, vs, fp', r, s, (k a (by rw [s]; exact List.mem_cons_self)).trans h, l, OwnsAt.mono e os vs fp' (fun b hb => k b (by rw [s]; exact List.mem_cons_of_mem _ hb)) t⟩
theorem OwnsAt.mono {K : PySem.W.Frag} {F F' H H' : Hp} (e : Ex F F') : ∀ (os : List O) (vs : List V) (fp : List Addr), (∀ a ∈ fp, H' a = H a) → OwnsAt K F H os vs fp → OwnsAt K F' H' os vs fp
  | [], vs, fp, _, h => h
  | o :: os, vs, fp, k, ⟨x, xs, f1, f2, r, s, h, t⟩ => ⟨x, xs, f1, f2, r, s, OwnAt.mono e o x f1 (fun b hb => k b (by rw [s]; exact List.mem_append_left _ hb)) h, OwnsAt.mono e os xs f2 (fun b hb => k b (by rw [s]; exact List.mem_append_right _ hb)) t⟩
end
def isTp : HO → Bool
  | .tup _ => true
  | .tbl _ => true
  | .ext _ => true
  | _ => false
theorem tb_tp {o : HO} (h : isTp o = false) : isTb o = false := by
  cases o <;> first | rfl | cases h
/-- at a stands o, which is no tuple, no table -/
structure Hs (H : Hp) (a : Addr) (o : HO) : Prop where
  e : H a = some o
  n : isTp o = false
mutual
theorem OwnAt.dom {K : PySem.W.Frag} {F H : Hp} : ∀ (o : O) (v : V) (fp : List Addr), OwnAt K F H o v fp → ∀ a ∈ fp, ∃ u, Hs H a u
  | .d x, v, fp, ⟨h, r⟩, a, ha => by rw [r] at ha; cases ha
  | .lst os, v, fp, ⟨a, vs, fp', r, s, h, t⟩, b, hb => by
    rw [s] at hb
    rcases List.mem_cons.mp hb with e | hb
    · exact ⟨_, e ▸ h, rfl⟩
    · exact OwnsAt.dom os vs fp' t b hb
  | .dct ks os, v, fp, ⟨a, vs, fp', r, s, h, l, t⟩, b, hb => by
    rw [s] at hb
    rcases List.mem_cons.mp hb with e | hb
    · exact ⟨_, e ▸ h, rfl⟩
    · exact OwnsAt.dom os vs fp' t b hb
  | .dtt ks os, v, fp, ⟨a, vs, fp', r, s, h, l, t⟩, b, hb => by
    rw [s] at hb
    rcases List.mem_cons.mp hb with e | hb
    · exact ⟨_, e ▸ h, rfl⟩
    · exact OwnsAt.dom os vs fp' t b hb
  | .ins C ns os, v, fp, ⟨a, dx, vs, fp', r, s, h, l, t⟩, b, hb => by
    rw [s] at hb
    rcases List.mem_cons.mp hb with e | hb
    · exact ⟨_, e ▸ h, rfl⟩
    · exact OwnsAt.dom os vs fp' t b hb
theorem OwnsAt.dom {K : PySem.W.Frag} {F H : Hp} : ∀ (os : List O) (vs : List V) (fp : List Addr), OwnsAt K F H os vs fp → ∀ a ∈ fp, ∃ u, Hs H a u
  | [], vs, fp, ⟨_, h⟩, a, ha => by rw [h] at ha; cases ha
  | o :: os, vs, fp, ⟨x, xs, f1, f2, r, s, h, t⟩, a, ha => by
    rw [s] at ha
    rcases List.mem_append.mp ha with ha | ha
    · exact OwnAt.dom o x f1 h a ha
    · exact OwnsAt.dom os xs f2 t a ha
end
abbrev DEnv := List (Option O)
/-- the frame's values -/
def EnvAt (K : PySem.W.Frag) (F H : Hp) : L2.St → DEnv → List Addr → Prop
  | [], [], fp => fp = [] ∧ MkF K F
  | _ :: σ, none :: env, fp => EnvAt K F H σ env fp
  | v :: σ, some o :: env, fp => ∃ x f1 f2, v = some x ∧ fp = f1 ++ f2 ∧ OwnAt K F H o x f1 ∧ EnvAt K F H σ env f2
  | [], _ :: _, _ => False
  | _ :: _, [], _ => False
section
variable {K : PySem.W.Frag} {F F' H H' : Hp}
theorem EnvAt.length : ∀ {σ : L2.St} {env : DEnv} {fp : List Addr}, EnvAt K F H σ env fp → σ.length = env.length
  | [], [], _, _ => rfl
  | _ :: σ, none :: env, fp, h => by rw [List.length_cons, List.length_cons, EnvAt.length (σ := σ) (env := env) (fp := fp) h]
  | v :: σ, some o :: env, fp, ⟨x, f1, f2, r, s, h, t⟩ => by rw [List.length_cons, List.length_cons, EnvAt.length t]
  | [], _ :: _, _, h => h.elim
  | _ :: _, [], _, h => h.elim
theorem EnvAt.mono (e : Ex F F') : ∀ {σ : L2.St} {env : DEnv} {fp : List Addr}, (∀ a ∈ fp, H' a = H a) → EnvAt K F H σ env fp → EnvAt K F' H' σ env fp
  | [], [], _, _, h => ⟨h.1, h.2.mono e⟩
  | _ :: σ, none :: env, fp, k, h => EnvAt.mono e (σ := σ) (env := env) (fp := fp) k h
  | v :: σ, some o :: env, fp, k, ⟨x, f1, f2, r, s, h, t⟩ => ⟨x, f1, f2, r, s, OwnAt.mono e o x f1 (fun b hb => k b (by rw [s]; exact List.mem_append_left _ hb)) h, EnvAt.mono e (fun b hb => k b (by rw [s]; exact List.mem_append_right _ hb)) t⟩
  | [], _ :: _, _, _, h => h.elim
  | _ :: _, [], _, _, h => h.elim
theorem EnvAt.dom : ∀ {σ : L2.St} {env : DEnv} {fp : List Addr}, EnvAt K F H σ env fp → ∀ a ∈ fp, ∃ u, Hs H a u
  | [], [], fp, h, a, ha => by
    have h' : fp = [] := h.1
    rw [h'] at ha
    cases ha
  | _ :: σ, none :: env, fp, h, a, ha => EnvAt.dom (σ := σ) (env := env) (fp := fp) h a ha
  | v :: σ, some o :: env, fp, ⟨x, f1, f2, r, s, h, t⟩, a, ha => by
    rw [s] at ha
    rcases List.mem_append.mp ha with ha | ha
    · exact OwnAt.dom o x f1 h a ha
    · exact EnvAt.dom t a ha
  | [], _ :: _, _, h, _, _ => h.elim
  | _ :: _, [], _, h, _, _ => h.elim
/-- one slot, the others aside -/
theorem EnvAt.at_ : ∀ {σ : L2.St} {env : DEnv} {fp : List Addr} (i : Nat), EnvAt K F H σ env fp → i < env.length →
    ∃ f0 fr, fp.Perm (f0 ++ fr) ∧ (∀ o, env[i]? = some (some o) → ∃ v, σ[i]? = some (some v) ∧ OwnAt K F H o v f0) ∧
      (∀ (F' H' : Hp), Ex F F' → (∀ a ∈ fr, H' a = H a) → (∀ x, EnvAt K F' H' (σ.set i x) (env.set i none) fr) ∧
        ∀ o' v' f', OwnAt K F' H' o' v' f' → ∃ fp', EnvAt K F' H' (σ.set i (some v')) (env.set i (some o')) fp' ∧ fp'.Perm (f' ++ fr))
  | [], [], _, i, h, hi => absurd hi (Nat.not_lt_zero _)
  | v :: σ, none :: env, fp, 0, h, hi => ⟨[], fp, List.Perm.refl _, fun o e => by simp at e, fun F' H' e k => ⟨fun x => EnvAt.mono e (σ := σ) (env := env) k h, fun o' v' f' ho => ⟨f' ++ fp, ⟨v', f', fp, rfl, rfl, ho, EnvAt.mono e (σ := σ) (env := env) k h⟩, List.Perm.refl _⟩⟩⟩
  | v :: σ, some o :: env, fp, 0, ⟨x, f1, f2, r, s, h, t⟩, hi => ⟨f1, f2, by rw [s], fun o' e => by
      have e' : o = o' := by simpa using e
      subst e' r
      exact ⟨x, rfl, h⟩, fun F' H' e k => ⟨fun x => EnvAt.mono e (σ := σ) (env := env) k t, fun o' v' f' ho => ⟨f' ++ f2, ⟨v', f', f2, rfl, rfl, ho, EnvAt.mono e (σ := σ) (env := env) k t⟩, List.Perm.refl _⟩⟩⟩
  | v :: σ, none :: env, fp, i + 1, h, hi => by
    obtain ⟨f0, fr, p, g, q⟩ := EnvAt.at_ (σ := σ) (env := env) (fp := fp) i h (by simpa using hi)
    exact ⟨f0, fr, p, fun o e => by simpa using g o (by simpa using e), fun F' H' e k => ⟨fun x => (q F' H' e k).1 x, fun o' v' f' ho => (q F' H' e k).2 o' v' f' ho⟩⟩
  | v :: σ, some o :: env, fp, i + 1, ⟨x, f1, f2, r, s, h, t⟩, hi => by
    obtain ⟨f0, fr, p, g, q⟩ := EnvAt.at_ (σ := σ) (env := env) (fp := f2) i t (by simpa using hi)
    refine ⟨f0, f1 ++ fr, ?_, fun o e => by simpa using g o (by simpa using e), fun F' H' e k => ⟨fun y => ?_, fun o' v' f' ho => ?_⟩⟩
    · rw [s]
      refine (List.Perm.append_left f1 p).trans ?_
      rw [← List.append_assoc, ← List.append_assoc]
      exact List.Perm.append_right _ List.perm_append_comm
    · exact ⟨x, f1, fr, r, rfl, OwnAt.mono e o x f1 (fun b hb => k b (List.mem_append_left _ hb)) h, (q F' H' e (fun b hb => k b (List.mem_append_right _ hb))).1 y⟩
    · obtain ⟨fp', a, b⟩ := (q F' H' e (fun b hb => k b (List.mem_append_right _ hb))).2 o' v' f' ho
      refine ⟨f1 ++ fp', ⟨x, f1, fp', r, rfl, OwnAt.mono e o x f1 (fun b hb => k b (List.mem_append_left _ hb)) h, a⟩, ?_⟩
      refine (List.Perm.append_left f1 b).trans ?_
      rw [← List.append_assoc, ← List.append_assoc]
      exact List.Perm.append_right _ List.perm_append_comm
  | [], _ :: _, _, _, h, _ => h.elim
  | _ :: _, [], _, _, h, _ => h.elim
end
/-- what holds between the frame's plain data and the heap: F frozen, fp owned -/
structure Rel (K : PySem.W.Frag) (F H : Hp) (σ : L2.St) (env : DEnv) (fp : List Addr) : Prop where
  ex : FH F H
  at_ : EnvAt K F H σ env fp
  nd : fp.Nodup
  out : ∀ a ∈ fp, F a = none
/-- what stood is kept; a table may have grown -/
def Kp (o : HO) (r : Option HO) : Prop := r = some o ∨ (isTb o = true ∧ ∃ ps, r = some (.tbl ps))
theorem Kp.of {o : HO} {r : Option HO} (h : Kp o r) (n : isTb o = false := by rfl) : r = some o := by
  rcases h with h | ⟨h, _⟩
  · exact h
  · rw [n] at h; cases h
theorem Kp.is {o : HO} {r : Option HO} (h : Kp o r) : ∃ u, r = some u := by
  rcases h with h | ⟨_, ps, h⟩
  · exact ⟨_, h⟩
  · exact ⟨_, h⟩
theorem Kp.trans {o : HO} {r r2 : Option HO} (h : Kp o r) (k : ∀ u, r = some u → Kp u r2) : Kp o r2 := by
  rcases h with h | ⟨t, ps, h⟩
  · exact k _ h
  · rcases k _ h with h2 | ⟨_, h2⟩
    · exact .inr ⟨t, ps, h2⟩
    · exact .inr ⟨t, h2⟩
/-- from one state to a later one -/
structure Po (F H : Hp) (fp : List Addr) (F' H' : Hp) (fp' : List Addr) : Prop where
  f : Ex F F'
  keep : ∀ a o, H a = some o → a ∉ fp → Kp o (H' a)
  fresh : ∀ a ∈ fp', a ∈ fp ∨ H a = none
  out : ∀ a o, F a = none → Hs H a o → a ∉ fp → F' a = none
theorem Po.refl {F H : Hp} {fp : List Addr} : Po F H fp F H fp := ⟨Ex.refl F, fun _ _ h _ => .inl h, fun _ h => .inl h, fun _ _ h _ _ => h⟩
theorem Po.trans {F H F1 H1 F2 H2 : Hp} {fp fp1 fp2 : List Addr} (a : Po F H fp F1 H1 fp1) (b : Po F1 H1 fp1 F2 H2 fp2) : Po F H fp F2 H2 fp2 := by
  have nf : ∀ x o, H x = some o → x ∉ fp → x ∉ fp1 := fun x o h n h1 => by
    rcases a.fresh x h1 with z | z
    · exact n z
    · rw [z] at h; cases h
  refine ⟨a.f.trans b.f, fun x o h n => (a.keep x o h n).trans fun u hu => b.keep x u hu (nf x o h n), fun x hx => ?_, fun x o h1 h2 n => b.out x o (a.out x o h1 h2 n) ⟨(a.keep x o h2.e n).of (tb_tp h2.n), h2.n⟩ (nf x o h2.e n)⟩
  rcases b.fresh x hx with z | z
  · exact a.fresh x z
  · by_cases hm : x ∈ fp
    · exact .inl hm
    · cases q : H x with
      | none => exact .inr rfl
      | some o =>
        obtain ⟨u, hu⟩ := (a.keep x o q hm).is
        rw [hu] at z
        cases z
/-- growth alone: nothing is written -/
structure Gr (F H F' H' : Hp) : Prop where
  f : Ex F F'
  h : ∀ a o, H a = some o → Kp o (H' a)
  fh : FH F' H'
  out : ∀ a o, F a = none → Hs H a o → F' a = none
theorem Gr.refl {F H : Hp} (e : FH F H) : Gr F H F H := ⟨Ex.refl F, fun _ _ h => .inl h, e, fun _ _ h _ => h⟩
theorem Gr.trans {F H F1 H1 F2 H2 : Hp} (a : Gr F H F1 H1) (b : Gr F1 H1 F2 H2) : Gr F H F2 H2 :=
  ⟨a.f.trans b.f, fun x o h => (a.h x o h).trans fun u hu => b.h x u hu, b.fh, fun x o h1 h2 => b.out x o (a.out x o h1 h2) ⟨(a.h x o h2.e).of (tb_tp h2.n), h2.n⟩⟩
/-- a new object, frozen at once -/
theorem Gr.new {F H : Hp} {p : Addr} {o : HO} (e : FH F H) (hp : H p = none) (n : isTb o = false := by rfl) : Gr F H (upd F p o) (upd H p o) := by
  refine ⟨Ex.new (e.no hp), fun a u h => .inl (Ex.new hp a u h), e.new hp n, fun a u h1 h2 => ?_⟩
  rw [upd_ne (ne_of_none h2.e hp)]
  exact h1
theorem Gr.po {F H F' H' : Hp} {fp : List Addr} (g : Gr F H F' H') : Po F H fp F' H' fp := ⟨g.f, fun a o h _ => g.h a o h, fun a h => .inl h, fun a o h1 h2 _ => g.out a o h1 h2⟩
section
variable {K : PySem.W.Frag} {F H F' H' : Hp} {σ : L2.St} {env : DEnv} {fp : List Addr}
theorem Rel.grow (R : Rel K F H σ env fp) (g : Gr F H F' H') : Rel K F' H' σ env fp := by
  refine ⟨g.fh, R.at_.mono g.f (fun a ha => ?_), R.nd, fun a ha => ?_⟩
  · obtain ⟨u, hu⟩ := R.at_.dom a ha
    rw [hu.e, (g.h a u hu.e).of (tb_tp hu.n)]
  · obtain ⟨u, hu⟩ := R.at_.dom a ha
    exact g.out a u (R.out a ha) hu
end
end DD
namespace DD
open PySem PySem.Spec PyProof.Rows L2
structure Exn where
  cls : Str
  ns : List Str
  ds : List D
/-- the exception at hand: its class, its dict -/
def ExAt (K : PySem.W.Frag) (F : Hp) (x : Exn) (c : Value) (dd : Option Addr) : Prop :=
  c = .ref (cadr K x.cls) ∧ ((x.ns = [] ∧ x.ds = [] ∧ dd = none) ∨ ∃ d vs, dd = some d ∧ F d = some (.xd (x.ns.zip vs)) ∧ x.ns.length = vs.length ∧ Dens K F x.ds vs)
theorem ExAt.mono {K : PySem.W.Frag} {F F' : Hp} {x : Exn} {c : Value} {dd : Option Addr} (e : Ex F F') (h : ExAt K F x c dd) : ExAt K F' x c dd := by
  obtain ⟨h1, h2⟩ := h
  refine ⟨h1, ?_⟩
  rcases h2 with h2 | ⟨d, vs, a, b, c, d'⟩
  · exact .inl h2
  · exact .inr ⟨d, vs, a, e _ _ b, c, Dens.mono e _ _ d'⟩
inductive Rs (α : Type) where
  | ok (a : α) (env : DEnv) | exc (x : Exn) (env : DEnv) | fail
def Rs.bind {α β : Type} (r : Rs α) (k : α → DEnv → Rs β) : Rs β := match r with
  | .ok a e => k a e
  | .exc x e => .exc x e
  | .fail => .fail
@[simp] theorem Rs.bind_ok {α β : Type} {a : α} {e : DEnv} {k : α → DEnv → Rs β} : (Rs.ok a e).bind k = k a e := id rfl
@[simp] theorem Rs.bind_exc {α β : Type} {x : Exn} {e : DEnv} {k : α → DEnv → Rs β} : (Rs.exc x e).bind k = Rs.exc x e := id rfl
@[simp] theorem Rs.bind_fail {α β : Type} {k : α → DEnv → Rs β} : (Rs.fail : Rs α).bind k = Rs.fail := id rfl
section
variable {α β γ δ : Type}
def Out (K : PySem.W.Frag) (W : WX) (rel : Hp → α → β → Prop) (F H : Hp) (σ : L2.St) (fp : List Addr) (Q : β → Hp → Prop) : Rs α → Prop
  | .ok a env => ∀ F' H' fp' b, Po F H fp F' H' fp' → Rel K F' H' σ env fp' → rel F' a b → Q b H'
  | .exc x env => ∀ F' H' fp' c dd, Po F H fp F' H' fp' → Rel K F' H' σ env fp' → ExAt K F' x c dd → W c dd σ H'
  | .fail => False
theorem Out.step {K : PySem.W.Frag} {W : WX} {rel : Hp → α → β → Prop} {F H F1 H1 : Hp} {σ : L2.St} {fp fp1 : List Addr} {Q : β → Hp → Prop} {r : Rs α} (P : Po F H fp F1 H1 fp1) (h : Out K W rel F H σ fp Q r) : Out K W rel F1 H1 σ fp1 Q r := by
  cases r with
  | ok a env => exact fun F' H' fp' b P' => h F' H' fp' b (P.trans P')
  | exc x env => exact fun F' H' fp' c dd P' => h F' H' fp' c dd (P.trans P')
  | fail => exact h
/-- t does what m says -/
def Sn (K : PySem.W.Frag) (W : WX) (rel : Hp → α → β → Prop) (F0 : Hp) (t : L2.St → Hp → (β → Hp → Prop) → Prop) (m : DEnv → Rs α) : Prop :=
  ∀ (F H : Hp) (σ : L2.St) (env : DEnv) (fp : List Addr) (Q : β → Hp → Prop), Ex F0 F → Rel K F H σ env fp → Out K W rel F H σ fp Q (m env) → t σ H Q
theorem Sn.go {K : PySem.W.Frag} {W : WX} {rel1 : Hp → α → β → Prop} {rel2 : Hp → γ → δ → Prop} {F0 : Hp} {t1 : L2.St → Hp → (β → Hp → Prop) → Prop} {m1 : DEnv → Rs α} (h1 : Sn K W rel1 F0 t1 m1)
    {F H : Hp} {σ : L2.St} {env : DEnv} {fp : List Addr} {mk : α → DEnv → Rs γ} {Q : β → Hp → Prop} {Q2 : δ → Hp → Prop} (e : Ex F0 F) (R : Rel K F H σ env fp) (h : Out K W rel2 F H σ fp Q2 ((m1 env).bind mk))
    (hk : ∀ F' H' fp' env' a b, Po F H fp F' H' fp' → Rel K F' H' σ env' fp' → rel1 F' a b → Out K W rel2 F' H' σ fp' Q2 (mk a env') → Q b H') : t1 σ H Q := by
  refine h1 F H σ env fp _ e R ?_
  generalize m1 env = r at h
  cases r with
  | ok a env1 => exact fun F' H' fp' b P R' r' => hk F' H' fp' env1 a b P R' r' (Out.step P h)
  | exc x env1 => exact h
  | fail => exact h
end
abbrev emp : Hp := fun _ => none
theorem ex_emp {F : Hp} : Ex emp F := fun _ _ h => nomatch h
abbrev MD := DEnv → Rs D
abbrev MB := DEnv → Rs Bool
abbrev MA := DEnv → Rs (List D)
def ofO {α : Type} (o : Option α) (env : DEnv) : Rs α := match o with
  | some c => .ok c env
  | none => .fail
def mNil : MA := fun env => .ok [] env
def mCons (a : MD) (r : MA) : MA := fun env => (a env).bind fun x e1 => (r e1).bind fun xs e2 => .ok (x :: xs) e2
def mLst (a : MA) : MD := fun env => (a env).bind fun xs e1 => if xs.length ≤ sizeLine then .ok (.lst xs) e1 else .fail
theorem sn_nil {K : PySem.W.Frag} {W : WX} : Sn K W (Dens K) emp tNil mNil := fun F H σ env fp Q _ R h => h F H fp [] Po.refl R dens_nil
section
variable {X : Cx} {W : WX} {pos : Pos}
variable {a b c e : Expr} {ta tb tc te : TE} {ma mb mc me : MD} {es rest : List Expr} {tA tB' : TT} {mA mB' : MB} {t : TA} {m : MA}
theorem gr_lst {K : PySem.W.Frag} {F H : Hp} {p : Addr} {xs : List V} {ds : List D} (e : FH F H) (hp : H p = none) (h : Dens K F ds xs) : Gr F H (upd F p (.lst xs)) (upd H p (.lst xs)) ∧ Den K (upd F p (.lst xs)) (.lst ds) (.ref p) := by
  have g : Gr F H (upd F p (.lst xs)) (upd H p (.lst xs)) := Gr.new e hp
  exact ⟨g, p, xs, rfl, .inl upd_same, Dens.mono g.f ds xs h⟩
end
end DD
namespace DD
open PySem L2
section
variable {K : PySem.W.Frag} {F F' H H' : Hp} {σ : L2.St} {env : DEnv} {fp : List Addr}
theorem Rel.len (R : Rel K F H σ env fp) : σ.length = env.length := R.at_.length
/-- a frozen thing into a slot -/
theorem Rel.set {i : Nat} {d : D} {v : V} (R : Rel K F H σ env fp) (h : Den K F d v) : ∃ fp', Rel K F H (σ.set i (some v)) (env.set i (some (.d d))) fp' ∧ ∀ a ∈ fp', a ∈ fp := by
  by_cases hi : i < env.length
  · obtain ⟨f0, fr, p, g, q⟩ := R.at_.at_ i hi
    obtain ⟨fp', a, b⟩ := (q F H (Ex.refl _) fun _ _ => rfl).2 (.d d) v [] ⟨h, rfl⟩
    have nd : (f0 ++ fr).Nodup := p.nodup_iff.mp R.nd
    have sub : ∀ a ∈ fp', a ∈ fp := fun a ha => p.symm.subset (List.mem_append_right _ (by simpa using b.subset ha))
    exact ⟨fp', ⟨R.ex, a, b.symm.nodup_iff.mp (by simpa using (List.nodup_append.mp nd).2.1), fun x hx => R.out x (sub x hx)⟩, sub⟩
  · refine ⟨fp, ?_, fun _ h => h⟩
    rw [List.set_eq_of_length_le (by rw [R.len]; omega), List.set_eq_of_length_le (by omega)]
    exact R
/-- what is owned into a slot -/
structure RelO (K : PySem.W.Frag) (F H : Hp) (σ : L2.St) (env : DEnv) (f1 f2 : List Addr) (o : O) (v : V) : Prop where
  ex : FH F H
  at_ : EnvAt K F H σ env f2
  own : OwnAt K F H o v f1
  nd : (f1 ++ f2).Nodup
  out : ∀ a ∈ f1 ++ f2, F a = none
theorem RelO.set {i : Nat} {o : O} {v : V} {f1 f2 : List Addr} (R : RelO K F H σ env f1 f2 o v) (hi : i < env.length) : ∃ fp', Rel K F H (σ.set i (some v)) (env.set i (some o)) fp' ∧ ∀ a ∈ fp', a ∈ f1 ++ f2 := by
  obtain ⟨f0, fr, p, g, q⟩ := R.at_.at_ i hi
  obtain ⟨fp', a, b⟩ := (q F H (Ex.refl _) fun _ _ => rfl).2 o v f1 R.own
  have nd : (f1 ++ (f0 ++ fr)).Nodup := (List.Perm.append_left f1 p).nodup_iff.mp R.nd
  have sub : ∀ a ∈ fp', a ∈ f1 ++ f2 := fun a ha => by
    rcases List.mem_append.mp (b.subset ha) with z | z
    · exact List.mem_append_left _ z
    · exact List.mem_append_right _ (p.symm.subset (List.mem_append_right _ z))
  refine ⟨fp', ⟨R.ex, a, b.symm.nodup_iff.mp ?_, fun x hx => R.out x (sub x hx)⟩, sub⟩
  rw [List.nodup_append] at nd ⊢
  obtain ⟨n1, n2, n3⟩ := nd
  exact ⟨n1, (List.nodup_append.mp n2).2.1, fun a ha b hb => n3 a ha b (List.mem_append_right _ hb)⟩
mutual
/-- what is owned, frozen -/
def fz : O → D
  | .d x => x
  | .lst os => .lst (fzs os)
  | .dct ks os => .dct ks (fzs os)
  | .dtt ks os => .dtt ks (fzs os)
  | .ins C ns os => .ins C ns (fzs os)
def fzs : List O → List D
  | [] => []
  | o :: os => fz o :: fzs os
end
/-- dicts -/
def isDc : Option HO → Bool
  | some (.dK _) => true
  | some (.dT _) => true
  | _ => false
/-- the dicts among fp locked -/
structure Lk (fp : List Addr) (H H' : Hp) : Prop where
  same : ∀ b, b ∉ fp ∨ isDc (H b) = false → H' b = H b
  frz : ∀ b ∈ fp, ∀ u, H b = some u → isDc (H b) = true → ∃ od, H' b = some (.frz od u)
theorem Lk.dom {fp : List Addr} {H H' : Hp} (l : Lk fp H H') {a : Addr} (h : ∃ u, H a = some u) : ∃ u, H' a = some u := by
  obtain ⟨u, hu⟩ := h
  by_cases ha : a ∈ fp
  · by_cases hd : isDc (H a) = true
    · obtain ⟨od, e⟩ := l.frz a ha u hu hd
      exact ⟨_, e⟩
    · exact ⟨u, by rw [l.same a (.inr (by simpa using hd)), hu]⟩
  · exact ⟨u, by rw [l.same a (.inl ha), hu]⟩
mutual
theorem OwnAt.fz {fp0 : List Addr} (e : Ex F F') (l : Lk fp0 H H') : ∀ (o : O) (v : V) (fp : List Addr), (∀ a ∈ fp, a ∈ fp0 ∧ F' a = H' a) → OwnAt K F H o v fp → Den K F' (fz o) v
  | .d x, v, fp, _, ⟨h, r⟩ => Den.mono e x v h
  | .lst os, v, fp, k, ⟨a, vs, fp', r, s, h, t⟩ => ⟨a, vs, r, .inl (((k a (by rw [s]; exact List.mem_cons_self)).2.trans (l.same a (.inr (by rw [h]; rfl)))).trans h), OwnsAt.fz e l os vs fp' (fun b hb => k b (by rw [s]; exact List.mem_cons_of_mem _ hb)) t⟩
  | .dct ks os, v, fp, k, ⟨a, vs, fp', r, s, h, z, t⟩ => by
    have ka := k a (by rw [s]; exact List.mem_cons_self)
    obtain ⟨od, e2⟩ := l.frz a ka.1 _ h (by rw [h]; rfl)
    exact ⟨a, od, vs, r, ka.2.trans e2, z, OwnsAt.fz e l os vs fp' (fun b hb => k b (by rw [s]; exact List.mem_cons_of_mem _ hb)) t⟩
  | .dtt ks os, v, fp, k, ⟨a, vs, fp', r, s, h, z, t⟩ => by
    have ka := k a (by rw [s]; exact List.mem_cons_self)
    obtain ⟨od, e2⟩ := l.frz a ka.1 _ h (by rw [h]; rfl)
    exact ⟨a, od, vs, r, ka.2.trans e2, z, OwnsAt.fz e l os vs fp' (fun b hb => k b (by rw [s]; exact List.mem_cons_of_mem _ hb)) t⟩
  | .ins C ns os, v, fp, k, ⟨a, dx, vs, fp', r, s, h, z, t⟩ => ⟨a, dx, vs, r, ((k a (by rw [s]; exact List.mem_cons_self)).2.trans (l.same a (.inr (by rw [h]; rfl)))).trans h, z, OwnsAt.fz e l os vs fp' (fun b hb => k b (by rw [s]; exact List.mem_cons_of_mem _ hb)) t⟩
theorem OwnsAt.fz {fp0 : List Addr} (e : Ex F F') (l : Lk fp0 H H') : ∀ (os : List O) (vs : List V) (fp : List Addr), (∀ a ∈ fp, a ∈ fp0 ∧ F' a = H' a) → OwnsAt K F H os vs fp → Dens K F' (fzs os) vs
  | [], vs, fp, _, ⟨h, _⟩ => h
  | o :: os, vs, fp, k, ⟨x, xs, f1, f2, r, s, h, t⟩ => ⟨x, xs, r, OwnAt.fz e l o x f1 (fun b hb => k b (by rw [s]; exact List.mem_append_left _ hb)) h, OwnsAt.fz e l os xs f2 (fun b hb => k b (by rw [s]; exact List.mem_append_right _ hb)) t⟩
end
/-- the ground with the objects at fp -/
def frzF (F H : Hp) (fp : List Addr) : Hp := fun a => if a ∈ fp then H a else F a
theorem frzF_in {a : Addr} (h : a ∈ fp) : frzF F H fp a = H a := if_pos h
theorem frzF_ne {a : Addr} (h : a ∉ fp) : frzF F H fp a = F a := if_neg h
theorem frzF_ex (ho : ∀ a ∈ fp, F a = none) : Ex F (frzF F H fp) := fun a o h => by
  rw [frzF_ne fun z => by rw [ho a z] at h; cases h]
  exact h
theorem frzF_fh (e : FH F H) (l : Lk fp H H') (ho : ∀ a ∈ fp, F a = none) (hd : ∀ a ∈ fp, ∃ u, Hs H a u) : FH (frzF F H' fp) H' := by
  refine ⟨⟨fun a o h n => ?_⟩, fun a ps h => ?_⟩
  · by_cases z : a ∈ fp
    · rw [frzF_in z] at h
      exact h
    · rw [frzF_ne z] at h
      rw [l.same a (.inl z)]
      exact e.at_ a o h n
  · by_cases z : a ∈ fp
    · rw [frzF_in z] at h
      obtain ⟨u, hu⟩ := hd a z
      by_cases hc : isDc (H a) = true
      · obtain ⟨od, e1⟩ := l.frz a z u hu.e hc
        rw [e1] at h
        cases h
      · rw [l.same a (.inr (by simpa using hc)), hu.e] at h
        cases h
        have := hu.n
        cases this
    · rw [frzF_ne z] at h
      obtain ⟨q, t, e1, ps', h1, h2, h3⟩ := e.tb a ps h
      refine ⟨q, t, e1, ps', by rw [l.same a (.inl z)]; exact h1, h2, fun pos cv hc => ?_⟩
      obtain ⟨c, e2, e3⟩ := h3 pos cv hc
      exact ⟨c, e2, frzF_ex ho c _ e3⟩
/-- a slot's tree frozen -/
theorem Rel.frz {i : Nat} {o : O} (R : Rel K F H σ env fp) (ei : env[i]? = some (some o)) : ∃ f0 : List Addr, f0.Nodup ∧ (∀ a ∈ f0, ∃ u, Hs H a u) ∧ ∀ H', Lk f0 H H' → ∃ F' fp', Rel K F' H' σ (env.set i (some (.d (DD.fz o)))) fp' ∧ Po F H fp F' H' fp' := by
  have hi := (List.getElem?_eq_some_iff.mp ei).1
  obtain ⟨f0, fr, p, g, q⟩ := R.at_.at_ i hi
  obtain ⟨v, e1, own⟩ := g o ei
  have nd : (f0 ++ fr).Nodup := p.nodup_iff.mp R.nd
  have nd' := List.nodup_append.mp nd
  refine ⟨f0, nd'.1, fun a ha => OwnAt.dom o v f0 own a ha, fun H' l => ?_⟩
  have out0 : ∀ a ∈ f0, F a = none := fun a ha => R.out a (p.symm.subset (List.mem_append_left _ ha))
  have outr : ∀ a ∈ fr, F a = none := fun a ha => R.out a (p.symm.subset (List.mem_append_right _ ha))
  have e : Ex F (frzF F H' f0) := frzF_ex out0
  have ner : ∀ a ∈ fr, a ∉ f0 := fun a ha hb => nd'.2.2 a hb a ha rfl
  obtain ⟨fp', a, b⟩ := (q (frzF F H' f0) H' e fun a ha => l.same a (.inl (ner a ha))).2 (.d (DD.fz o)) v [] ⟨OwnAt.fz e l o v f0 (fun a ha => ⟨ha, frzF_in ha⟩) own, rfl⟩
  have es : σ.set i (some v) = σ := by
    obtain ⟨h1, h2⟩ := List.getElem?_eq_some_iff.mp e1
    rw [← h2]
    exact List.set_getElem_self h1
  rw [es] at a
  have sub : ∀ x ∈ fp', x ∈ fr := fun x hx => by simpa using b.subset hx
  refine ⟨_, fp', ⟨frzF_fh R.ex l out0 (fun a ha => OwnAt.dom o v f0 own a ha), a, b.symm.nodup_iff.mp (by simpa using nd'.2.1), fun x hx => ?_⟩, ⟨e, fun x o' h hn => by rw [l.same x (.inl fun z => hn (p.symm.subset (List.mem_append_left _ z)))]; exact .inl h, fun x hx => .inl (p.symm.subset (List.mem_append_right _ (sub x hx))), fun x o' h _ hn => ?_⟩⟩
  · rw [frzF_ne fun z => nd'.2.2 x z x (sub x hx) rfl]
    exact outr x (sub x hx)
  · rw [frzF_ne fun z => hn (p.symm.subset (List.mem_append_left _ z))]
    exact h
end
theorem Lk.nil {H : Hp} : Lk [] H H := ⟨fun _ _ => rfl, fun b hb => by cases hb⟩
theorem Lk.cons {a : Addr} {fp : List Addr} {H H' : Hp} {od : Obj} {u : HO} (n : a ∉ fp) (ha : H a = some u) (hd : isDc (H a) = true) (l : Lk fp (upd H a (.frz od u)) H') : Lk (a :: fp) H H' := by
  have ha' : H' a = some (.frz od u) := by
    rw [l.same a (.inl n), upd_same]
  refine ⟨fun b hb => ?_, fun b hb v hv hdb => ?_⟩
  · have nb : b ≠ a := fun z => by
      subst z
      rcases hb with hb | hb
      · exact hb List.mem_cons_self
      · rw [hd] at hb
        cases hb
    rw [l.same b (hb.imp (fun q z => q (List.mem_cons_of_mem _ z)) fun q => by rw [upd_ne nb]; exact q), upd_ne nb]
  · by_cases nb : b = a
    · subst nb
      rw [ha] at hv
      cases hv
      exact ⟨od, ha'⟩
    · have hb' : b ∈ fp := (List.mem_cons.mp hb).resolve_left nb
      exact l.frz b hb' v (by rw [upd_ne nb]; exact hv) (by rw [upd_ne nb]; exact hdb)
section
variable {K : PySem.W.Frag} {F F' H H' : Hp} {σ : L2.St} {env : DEnv} {fp : List Addr}
theorem Lk.refl {fp : List Addr} {H : Hp} (h : ∀ a ∈ fp, isDc (H a) = false) : Lk fp H H := ⟨fun _ _ => rfl, fun b hb u hu hd => by
  rw [h b hb] at hd
  cases hd⟩
end
inductive RS where
  | nx (env : DEnv) | rt (d : D) (env : DEnv) | ro (o : O) (env : DEnv) | bk (env : DEnv) | ct (env : DEnv) | exc (x : Exn) (env : DEnv) | fail
/-- the slots that keep their object -/
def Fx (fx : List Nat) (σ σ' : L2.St) : Prop := ∀ i ∈ fx, σ'[i]? = σ[i]?
theorem Fx.refl {fx : List Nat} {σ : L2.St} : Fx fx σ σ := fun _ _ => rfl
theorem Fx.trans {fx : List Nat} {σ σ1 σ2 : L2.St} (a : Fx fx σ σ1) (b : Fx fx σ1 σ2) : Fx fx σ σ2 := fun i h => (b i h).trans (a i h)
theorem Fx.set {fx : List Nat} {σ : L2.St} {i : Nat} {x : Option V} (h : i ∉ fx) : Fx fx σ (σ.set i x) := fun j hj => List.getElem?_set_ne (fun e => h (by rw [e]; exact hj))
/-- from an expression on -/
def Rs.on {α : Type} (r : Rs α) (k : α → DEnv → RS) : RS := match r with
  | .ok a e => k a e
  | .exc x e => .exc x e
  | .fail => .fail
@[simp] theorem Rs.on_ok {α : Type} {a : α} {e : DEnv} {k : α → DEnv → RS} : (Rs.ok a e).on k = k a e := id rfl
@[simp] theorem Rs.on_exc {α : Type} {x : Exn} {e : DEnv} {k : α → DEnv → RS} : (Rs.exc x e : Rs α).on k = .exc x e := id rfl
@[simp] theorem Rs.on_fail {α : Type} {k : α → DEnv → RS} : (Rs.fail : Rs α).on k = .fail := id rfl
end DD
namespace DD
open PySem L2
/-- an owned list of frozen things -/
abbrev oL (ds : List D) : O := .lst (ds.map .d)
@[simp] theorem fzs_map (ds : List D) : fzs (ds.map O.d) = ds := by
  induction ds with
  | nil => rfl
  | cons d ds ih => rw [List.map_cons, fzs, ih, fz]
@[simp] theorem fz_oL (ds : List D) : fz (oL ds) = .lst ds := by
  show D.lst (fzs (ds.map O.d)) = _
  rw [fzs_map]
@[simp] theorem fz_d (d : D) : fz (.d d) = d := rfl
def wipeE (env : DEnv) : List Nat → DEnv
  | [] => env
  | v :: vs => (wipeE env vs).set v none
@[simp] theorem wipeE_length (env : DEnv) : ∀ vs, (wipeE env vs).length = env.length
  | [] => rfl
  | v :: vs => by rw [wipeE, List.length_set, wipeE_length env vs]
end DD
namespace DD
open PySem PySem.Spec PyProof.Rows L2
/-- room, and nothing that guards against itself is under way -/
structure Roam (k : Nat) (A : Around) : Prop where
  room : Room k A
  gd : A.guards = some []
theorem Roam.mono {j k : Nat} {A : Around} (r : Roam k A) (h : j ≤ k) : Roam j A := ⟨r.room.mono h, r.gd⟩
theorem Roam.deeper {k : Nat} {A : Around} (r : Roam (k + 1) A) (env : PySem.Env) : Roam k (A.deeper env) := ⟨r.room.deeper env, r.gd⟩
structure FnG (P : Program) (w : World) (K : PySem.W.Frag) (mg : Str → Option Value) (base : Heap) (CX : CXT) (k : Nat) (f : Addr) (fd : FuncData) (ps : List Str) (sp : Sp) : Prop where
  len : ∀ vs H Q E, sp vs H Q E → vs.length = ps.length
  run : ∀ (A : Around) (outer : List PySem.Env) (s : Shared) (H : Hp) (args : Args) (us : List Value) (vs : List V) (Q : VK) (E : XK), Roam k A → Env0 P w K mg base A outer s H → BindsTo s fd args (ps.zip us) → Vals vs us → sp vs H Q E →
    codeAny (model P w) A (.call (.ref f) args) (CR CX outer P w H s Q E) s
theorem FnG.mono {P : Program} {w : World} {K : PySem.W.Frag} {mg : Str → Option Value} {base : Heap} {CX : CXT} {j k : Nat} {f : Addr} {fd : FuncData} {ps : List Str} {sp : Sp} (F : FnG P w K mg base CX j f fd ps sp) (h : j ≤ k) :
    FnG P w K mg base CX k f fd ps sp := ⟨F.len, fun A outer s H args us vs Q E hr => F.run A outer s H args us vs Q E (hr.mono h)⟩
end DD
namespace DD
open PySem PySem.Spec PyProof.Rows L2
/-- a def at g that keeps its promise -/
structure FnD (P : Program) (w : World) (K : PySem.W.Frag) (mg : Str → Option Value) (base : Heap) (k : Nat) (g : Addr) (sp : Sp) : Prop where
  ex : ∃ fd ps, PySem.W.keepIn K (.ref g) = true ∧ Binds K fd ps [] ∧ FnG P w K mg base (L2.CX P w) k g fd ps sp
theorem FnD.mono {P : Program} {w : World} {K : PySem.W.Frag} {mg : Str → Option Value} {base : Heap} {j k : Nat} {g : Addr} {sp : Sp} (h : FnD P w K mg base j g sp) (l : j ≤ k) : FnD P w K mg base k g sp := by
  obtain ⟨fd, ps, a, b, c⟩ := h.ex
  exact ⟨fd, ps, a, b, c.mono l⟩
section
variable {K : PySem.W.Frag} {W : WX} {t : TA} {m : MA} {n : Nat}
/-- one slot's tree goes out and comes back changed -/
theorem Rel.split {F H : Hp} {σ : L2.St} {env : DEnv} {fp : List Addr} {i : Nat} {o : O} (R : Rel K F H σ env fp) (e : env[i]? = some (some o)) :
    ∃ (v : V) (f0 fr : List Addr), σ[i]? = some (some v) ∧ OwnAt K F H o v f0 ∧ f0.Nodup ∧ (∀ a ∈ f0, F a = none) ∧ (∀ a ∈ f0, a ∈ fp) ∧
      (∀ F' H' o' f0', Po F H f0 F' H' f0' → FH F' H' → OwnAt K F' H' o' v f0' → f0'.Nodup → (∀ a ∈ f0', F' a = none) → ∃ fp', Rel K F' H' σ (env.set i (some o')) fp' ∧ Po F H fp F' H' fp') ∧
      (∀ F' H' o' r u f1 f0', Po F H f0 F' H' (f1 ++ f0') → FH F' H' → OwnAt K F' H' o' v f0' → OwnAt K F' H' r u f1 → (f1 ++ f0').Nodup → (∀ a ∈ f1 ++ f0', F' a = none) → ∃ fp', RelO K F' H' σ (env.set i (some o')) f1 fp' r u ∧ Po F H fp F' H' (f1 ++ fp')) := by
  have hi := (List.getElem?_eq_some_iff.mp e).1
  obtain ⟨f0, fr, p, g, q⟩ := R.at_.at_ i hi
  obtain ⟨v, e1, own⟩ := g o e
  have nd : (f0 ++ fr).Nodup := p.nodup_iff.mp R.nd
  have nd' := List.nodup_append.mp nd
  have out0 : ∀ a ∈ f0, F a = none := fun a ha => R.out a (p.symm.subset (List.mem_append_left _ ha))
  have outr : ∀ a ∈ fr, F a = none := fun a ha => R.out a (p.symm.subset (List.mem_append_right _ ha))
  have domr : ∀ a ∈ fr, ∃ u, Hs H a u := fun a ha => R.at_.dom a (p.symm.subset (List.mem_append_right _ ha))
  have ner : ∀ a ∈ fr, a ∉ f0 := fun a ha hb => nd'.2.2 a hb a ha rfl
  have es : σ.set i (some v) = σ := by
    obtain ⟨h1, h2⟩ := List.getElem?_eq_some_iff.mp e1
    rw [← h2]
    exact List.set_getElem_self h1
  refine ⟨v, f0, fr, e1, own, nd'.1, out0, fun a ha => p.symm.subset (List.mem_append_left _ ha), fun F' H' o' f0' P ex own' ndn out' => ?_, fun F' H' o' r u f1 f0' P ex own' ownr ndn out' => ?_⟩
  · have hr : ∀ a ∈ fr, H' a = H a := fun a ha => by
      obtain ⟨u, hu⟩ := domr a ha
      rw [hu.e, (P.keep a u hu.e (ner a ha)).of (tb_tp hu.n)]
    have ne' : ∀ a ∈ fr, a ∉ f0' := fun a ha hb => by
      rcases P.fresh a hb with z | z
      · exact ner a ha z
      · obtain ⟨u, hu⟩ := domr a ha
        rw [hu.e] at z
        cases z
    obtain ⟨fp', a, b⟩ := (q F' H' P.f hr).2 o' v f0' own'
    rw [es] at a
    refine ⟨fp', ⟨ex, a, b.symm.nodup_iff.mp (List.nodup_append.mpr ⟨ndn, nd'.2.1, fun x hx y hy z => ne' y hy (z ▸ hx)⟩), fun x hx => ?_⟩, ⟨P.f, fun x u h n => P.keep x u h fun z => n (p.symm.subset (List.mem_append_left _ z)), fun x hx => ?_, fun x u h1 h2 n => P.out x u h1 h2 fun z => n (p.symm.subset (List.mem_append_left _ z))⟩⟩
    · rcases List.mem_append.mp (b.subset hx) with z | z
      · exact out' x z
      · obtain ⟨u, hu⟩ := domr x z
        exact P.out x u (outr x z) hu (ner x z)
    · rcases List.mem_append.mp (b.subset hx) with z | z
      · exact (P.fresh x z).imp (fun z => p.symm.subset (List.mem_append_left _ z)) id
      · exact .inl (p.symm.subset (List.mem_append_right _ z))
  · have hr : ∀ a ∈ fr, H' a = H a := fun a ha => by
      obtain ⟨u, hu⟩ := domr a ha
      rw [hu.e, (P.keep a u hu.e (ner a ha)).of (tb_tp hu.n)]
    have ne' : ∀ a ∈ fr, a ∉ f1 ++ f0' := fun a ha hb => by
      rcases P.fresh a hb with z | z
      · exact ner a ha z
      · obtain ⟨u, hu⟩ := domr a ha
        rw [hu.e] at z
        cases z
    obtain ⟨fp', a, b⟩ := (q F' H' P.f hr).2 o' v f0' own'
    rw [es] at a
    have pp : (f1 ++ fp').Perm ((f1 ++ f0') ++ fr) := by
      rw [List.append_assoc]
      exact List.Perm.append_left f1 b
    refine ⟨fp', ⟨ex, a, ownr, pp.symm.nodup_iff.mp (List.nodup_append.mpr ⟨ndn, nd'.2.1, fun x hx y hy z => ne' y hy (z ▸ hx)⟩), fun x hx => ?_⟩, ⟨P.f, fun x u h n => P.keep x u h fun z => n (p.symm.subset (List.mem_append_left _ z)), fun x hx => ?_, fun x u h1 h2 n => P.out x u h1 h2 fun z => n (p.symm.subset (List.mem_append_left _ z))⟩⟩
    · rcases List.mem_append.mp (pp.subset hx) with z | z
      · exact out' x z
      · obtain ⟨u, hu⟩ := domr x z
        exact P.out x u (outr x z) hu (ner x z)
    · rcases List.mem_append.mp (pp.subset hx) with z | z
      · exact (P.fresh x z).imp (fun z => p.symm.subset (List.mem_append_left _ z)) id
      · exact .inl (p.symm.subset (List.mem_append_right _ z))
end
end DD
namespace DD
open PySem PySem.Spec PyProof.Rows L2
end DD
namespace DD
open PySem PySem.Spec PyProof.Rows L2
section
variable {K : PySem.W.Frag}
theorem atI_len {α β : Type} {xs : List α} {ys : List β} (h : xs.length = ys.length) {i : Int} {x : α} (e : atI xs i = some x) : ∃ j : Nat, xs[j]? = some x ∧ (∀ y : β, ys[j]? = some y → atI ys i = some y) := by
  unfold atI at e ⊢
  obtain ⟨j, e1, e2⟩ := Option.bind_eq_some_iff.mp e
  exact ⟨j, e2, fun y hy => by rw [← h, e1]; exact hy⟩
theorem Dens.at_ {F : Hp} {ds : List D} {vs : List V} {i : Int} {d : D} (h : Dens K F ds vs) (e : atI ds i = some d) : ∃ v, atI vs i = some v ∧ Den K F d v := by
  obtain ⟨j, e1, e2⟩ := atI_len (Dens.length h) e
  obtain ⟨v, h1, h2⟩ := Dens.get h e1
  exact ⟨v, e2 v h1, h2⟩
def getD : D → D → Option D
  | .lst ds, .int i => atI ds i
  | .tup ds, .int i => atI ds i
  | .scr ns, .int i => (atI ns i).map .int
  | .str s, .int i => if s.length ≤ sizeLine then (atI s.cps.toList i).map fun c => .str ⟨#[c]⟩ else none
  | _, _ => none
end
end DD
namespace DD
open PySem PySem.Spec PyProof.Rows L2
section
variable {X : Cx} {W : WX} {tg : Expr}
def smallI (i : Int) : Bool := decide (-(2 ^ 62) ≤ i) && decide (i < 2 ^ 62)
def rngL (i : Int) (n : Nat) : List D := (List.range n).map fun k => .int (i + (k : Nat))
end
end DD
namespace DD
open PySem PySem.Spec PyProof.Rows L2
end DD
namespace DD
open PySem PySem.Spec PyProof.Rows L2
section
variable {K : PySem.W.Frag} {F F' H H' : Hp} {σ : L2.St} {env : DEnv} {fp : List Addr}
/-- what a slot owns, and what comes of a write to one of its objects -/
theorem Rel.own {i : Nat} {o : O} (R : Rel K F H σ env fp) (e : env[i]? = some (some o)) :
    ∃ v f0, σ[i]? = some (some v) ∧ OwnAt K F H o v f0 ∧ f0.Nodup ∧ (∀ a ∈ f0, F a = none) ∧ ∀ a u o', a ∈ f0 → OwnAt K F (upd H a u) o' v f0 →
      ∃ fp', Rel K F (upd H a u) σ (env.set i (some o')) fp' ∧ Po F H fp F (upd H a u) fp' := by
  obtain ⟨v, f0, fr, s1, own, nd, out0, sub, back, _⟩ := R.split e
  refine ⟨v, f0, s1, own, nd, out0, fun a u o' ha own' => ?_⟩
  refine back F (upd H a u) o' f0 ⟨Ex.refl _, fun b w h n => ?_, fun b hb => .inl hb, fun _ _ h _ _ => h⟩ (R.ex.upd (out0 a ha)) own' nd out0
  · rw [upd_ne fun z => n (by rw [z]; exact ha)]
    exact .inl h
end
end DD
namespace DD
open PySem PySem.Spec PyProof.Rows L2
end DD
namespace DD
open PySem PySem.Spec PyProof.Rows L2
end DD
namespace DD
open PySem PySem.Spec PyProof.Rows L2
end DD
namespace DD
open PySem L2
theorem RelO.len {K : PySem.W.Frag} {F H : Hp} {τ : L2.St} {e : DEnv} {f1 fp : List Addr} {o : O} {v : V} (R : RelO K F H τ e f1 fp o v) : τ.length = e.length := R.at_.length
end DD
namespace DD
open PySem L2
end DD
namespace DD
open PySem PySem.Spec PyProof.Rows L2
/-- where something stands -/
abbrev Loc' : Type := PySem.W.Frag → Addr
def gaL (x : Str) : Loc' := fun K => He.ga K x
def maL (C m : Str) : Loc' := fun K => He.ma K (He.ga K C) m
/-- one def -/
structure DefX where
  loc : Loc'
  name : Str
  qual : Str
  st : Stmt
def FnT (K : PySem.W.Frag) (a : Addr) : He.FnW := match K.lookup a with
  | some ⟨_, _, .func ⟨n1, n2, n3, n4, n5, n6, n7, _, _, _, _, _, _, _, n15⟩, _⟩ => some (n1, n2, n3, n4, n5, n6, n7, n15)
  | _ => none
def DefX.val (d : DefX) : He.FnW := some (d.name, d.qual, defArgs d.st, .stmts (defBody d.st), defScope d.st, mainGlobals, [], builtinsNs)
def DefX.ok (K : PySem.W.Frag) (d : DefX) : Bool := PySem.W.keepIn K (.ref (d.loc K)) && (match K.lookup (d.loc K) with
  | some ⟨_, _, .func fd, _⟩ => PySem.W.codeIn K fd.code d.qual && (He.dflB K fd.defaults [] && He.kwdB K fd.kwdefaults [])
  | _ => false)
abbrev BoolX : Type := PySem.W.Frag → Bool
def faB (f : He.Fa) : BoolX := fun K => f.ok K
def obsX (bs : List BoolX) (fn : List DefX) (K : PySem.W.Frag) : He.AlD := ((bs.all fun b => b K) && fn.all fun d => d.ok K, fn.map fun d => FnT K (d.loc K))
def valX (fn : List DefX) : He.AlD := (true, fn.map DefX.val)
def SaysX (bs : List BoolX) (fn : List DefX) (K : PySem.W.Frag) : Prop := obsX bs fn K = valX fn
end DD
namespace DD
open PySem PySem.Spec PyProof.Rows L2
end DD
namespace DD
open PySem PySem.Spec PyProof.Rows L2
end DD
namespace DD
open PySem PySem.Spec PyProof.Rows L2
end DD
namespace DD
open PySem PySem.Spec PyProof.Rows L2
end DD
namespace DD
open PySem PySem.Spec PyProof.Rows L2
/-- all frozen -/
def unD : List O → Option (List D)
  | [] => some []
  | .d x :: r => (unD r).map (x :: ·)
  | _ => none
@[simp] theorem unD_map : ∀ ds : List D, unD (ds.map .d) = some ds
  | [] => rfl
  | d :: ds => by rw [List.map_cons, unD, unD_map ds]; rfl
/-- an owned dict of frozen things -/
abbrev oD (ks : List Key) (ds : List D) : O := .dct ks (ds.map .d)
@[simp] theorem fz_oD (ks : List Key) (ds : List D) : fz (oD ks ds) = .dct ks ds := by
  show D.dct ks (fzs (ds.map O.d)) = _
  rw [fzs_map]
/-- .. with tuples as keys -/
abbrev oT (ks : List (List Key)) (ds : List D) : O := .dtt ks (ds.map .d)
@[simp] theorem fz_oT (ks : List (List Key)) (ds : List D) : fz (oT ks ds) = .dtt ks ds := by
  show D.dtt ks (fzs (ds.map O.d)) = _
  rw [fzs_map]
end DD
namespace DD
open PySem PySem.Spec PyProof.Rows L2
section
variable {X : Cx} {W : WX} {fx : List Nat} {pos pos' p apos npos cpos tpos : Pos} {x : Str} {e ke ve o tg : Expr} {te tk tv td : TE} {me mk mv md : MD} {i : Nat}
theorem Den.dct {K : PySem.W.Frag} {F H : Hp} {ks : List Key} {ds : List D} {v : V} (e : FH F H) (h : Den K F (.dct ks ds) v) : ∃ a vs, v = .ref a ∧ Rd H a (.dK (ks.zip vs)) ∧ ks.length = vs.length ∧ Dens K F ds vs := by
  obtain ⟨a, o, vs, h1, h2, h3, h4⟩ := h
  exact ⟨a, vs, h1, .inr ⟨o, e.at_ _ _ h2 rfl⟩, h3, h4⟩
theorem Den.dtt {K : PySem.W.Frag} {F H : Hp} {ks : List (List Key)} {ds : List D} {v : V} (e : FH F H) (h : Den K F (.dtt ks ds) v) : ∃ a vs, v = .ref a ∧ Rd H a (.dT (ks.zip vs)) ∧ ks.length = vs.length ∧ Dens K F ds vs := by
  obtain ⟨a, o, vs, h1, h2, h3, h4⟩ := h
  exact ⟨a, vs, h1, .inr ⟨o, e.at_ _ _ h2 rfl⟩, h3, h4⟩
end
end DD
namespace DD
open PySem PySem.Spec PyProof.Rows L2
end DD
namespace DD
open PySem PySem.Spec PyProof.Rows L2
end DD
namespace DD
open PySem PySem.Spec PyProof.Rows L2
end DD
namespace DD
open PySem PySem.Spec PyProof.Rows L2
end DD
namespace DD
open PySem PySem.Spec PyProof.Rows L2
end DD
namespace DD
open PySem PySem.Spec PyProof.Rows L2
end DD
namespace DD
open PySem PySem.Spec PyProof.Rows L2
section
variable {X : Cx} {W : WX}
def revD : D → Option D
  | .lst ds => some (.lst ds.reverse)
  | .tup ds => some (.tup ds.reverse)
  | _ => none
@[simp] theorem v_revL {xs : List D} : revD (.lst xs) = some (.lst xs.reverse) := id rfl
@[simp] theorem v_revT {xs : List D} : revD (.tup xs) = some (.tup xs.reverse) := id rfl
end
section
variable {X : Cx} {W : WX} {e : Expr} {te : TE} {me : MD} {p apos cpos pos : Pos}
def valsD : D → Option D
  | .dct _ ds => some (.lst ds)
  | _ => none
@[simp] theorem v_valsD {ks : List Key} {ds : List D} : valsD (.dct ks ds) = some (.lst ds) := id rfl
end
def neE : D → D → Option D
  | .dct ks _, .dct [] [] => some (.bl (!ks.isEmpty))
  | _, _ => none
@[simp] theorem v_neE {ks : List Key} {ds : List D} : neE (.dct ks ds) (.dct [] []) = some (.bl (!ks.isEmpty)) := id rfl
end DD
namespace DD
open PySem PySem.Spec PyProof.Rows L2
end DD
namespace DD
open PySem PySem.Spec PyProof.Rows L2
end DD
namespace DD
open PySem PySem.Spec PyProof.Rows L2
end DD
namespace DD
open PySem PySem.Spec PyProof.Rows L2
end DD
namespace DD
open PySem PySem.Spec PyProof.Rows L2
def seedG (g : Addr → Option Obj) (ns : List Str) : List Addr := ns.map (He.ga (He.frG g [mainGlobals]))
def asS (g : Addr → Option Obj) (fns cls : List Str) : List Addr := mainGlobals :: (He.growG g (seedG g fns) ++ He.growG g (He.growG g (He.growG g (He.growG g (seedG g cls)))))
def obsXS (fns cls : List Str) (bs : List BoolX) (fn : List DefX) (g : Addr → Option Obj) : He.AlD := obsX bs fn (He.frG g (asS g fns cls))
def hookS (fns cls : List Str) (bs : List BoolX) (fn : List DefX) : PySem.W.Hook where
  α := He.AlD
  obs := fun s => obsXS fns cls bs fn s.heap.get?
  val := fun _ => valX fn
  says := fun _ h => ∃ K : PySem.W.Frag, K.In h ∧ SaysX bs fn K
  of := fun _ _ e => ⟨_, He.frG_in, e⟩
  keeps := fun _ _ _ z k => by
    obtain ⟨K, hK, c⟩ := z
    exact ⟨K, PySem.W.Frag.In.keeps hK k, c⟩
end DD
namespace DD
open PySem PySem.Spec PyProof.Rows L2
end DD
namespace DD
open PySem PySem.Spec PyProof.Rows L2
end DD
namespace DD
open PySem PySem.Spec PyProof.Rows L2
end DD
namespace DD
open PySem PySem.Spec PyProof.Rows L2
end DD
namespace DD
open PySem PySem.Spec PyProof.Rows L2 PySem.W
end DD
namespace DD
open PySem PySem.Spec PyProof.Rows L2
end DD
namespace DD
open PySem PySem.Spec PyProof.Rows L2
end DD
namespace DD
open PySem PySem.Spec PyProof.Rows L2
end DD
namespace DD
open PySem PySem.Spec PyProof.Rows L2
end DD
namespace DD
open PySem PySem.Spec PyProof.Rows L2
end DD
namespace DD
open PySem PySem.Spec PyProof.Rows L2
end DD
namespace DD
open PySem PySem.Spec PyProof.Rows L2
end DD
namespace DD
open PySem PySem.Spec PyProof.Rows L2
end DD
namespace DD
open PySem PySem.Spec PyProof.Rows L2
end DD
namespace DD
open PySem PySem.Spec PyProof.Rows L2
end DD
namespace DD
open PySem PySem.Spec PyProof.Rows L2
end DD
namespace DD
open PySem PySem.Spec PyProof.Rows L2
end DD
set_option maxHeartbeats 2000000
namespace DD
open PySem PySem.Spec PyProof.Rows L2
end DD
namespace DD
open PySem PySem.Spec PyProof.Rows L2
end DD
set_option maxHeartbeats 200000
namespace DD
open PySem PySem.Spec PyProof.Rows L2
end DD
namespace DD
open PySem PySem.Spec PyProof.Rows L2
end DD
set_option maxHeartbeats 1000000
namespace DD
open PySem PySem.Spec PyProof.Rows L2
end DD
namespace DD
open PySem PySem.Spec PyProof.Rows L2
end DD
namespace DD
open PySem PySem.Spec PyProof.Rows L2
end DD
namespace DD
open PySem PySem.Spec PyProof.Rows L2
end DD
namespace DD
open PySem PySem.Spec PyProof.Rows L2
end DD
set_option maxHeartbeats 200000
namespace DD
open PySem PySem.Spec PyProof.Rows L2
end DD
namespace DD
open PySem PySem.Spec PyProof.Rows L2
inductive EB where
  | v | l | a
def EB.nw : EB → String
  | .v => "ValueError.__new__" | .l => "LookupError.__new__" | .a => "ArithmeticError.__new__"
def EB.bm : EB → List Value
  | .v => [.type "ValueError", .type "Exception", .type "BaseException", .type "object"]
  | .l => [.type "LookupError", .type "Exception", .type "BaseException", .type "object"]
  | .a => [.type "ArithmeticError", .type "Exception", .type "BaseException", .type "object"]
def excB (C : Str) (b : EB) : BoolX := fun K => PySem.W.excIn K (He.ga K C) b.bm b.nw && (PySem.W.keepIn K (.ref (He.ga K C)) && (decide (PySem.W.subIn K (.ref (He.ga K C)) (.type "BaseException") = some true) && decide (PySem.W.typeIn K (.ref (He.ga K C)) = some (.type "type"))))
/-- whether an exception of the class E is met by except C -/
abbrev ExmA (K : PySem.W.Frag) (E C : Str) (b : Bool) : Prop := PySem.W.exmOne K (.ref (cadr K E)) (.ref (cadr K C)) = some b
inductive ExmL (K : PySem.W.Frag) (C : Str) : List (Str × Bool) → Prop
  | nil : ExmL K C []
  | cons {E : Str} {b : Bool} {l : List (Str × Bool)} (h : ExmA K E C b) (t : ExmL K C l) : ExmL K C ((E, b) :: l)
theorem ExmL.at_ {K : PySem.W.Frag} {C E : Str} {b : Bool} : ∀ {l : List (Str × Bool)}, ExmL K C l → l.lookup E = some b → ExmA K E C b
  | _, .nil, h => by cases h
  | (E', b') :: l, .cons h t, e => by
    by_cases q : E = E'
    · subst q
      rw [List.lookup_cons_self] at e
      cases e
      exact h
    · rw [List.lookup_cons, show (E == E') = false from by rw [beq_eq_false_iff_ne]; exact q] at e
      exact t.at_ e
section
variable {X : Cx} {W : WX} {fx : List Nat} {pos pos' p p2 np : Pos} {C : Str} {b : EB}
abbrev WF : WX := fun _ _ _ _ => False
end
end DD
set_option maxHeartbeats 1000000
namespace DD
open PySem PySem.Spec PyProof.Rows L2
end DD
namespace DD
open PySem PySem.Spec PyProof.Rows L2
end DD
namespace DD
open PySem PySem.Spec PyProof.Rows L2
end DD
namespace DD
open PySem PySem.Spec PyProof.Rows L2
section
variable {X : Cx} {W : WX} {a b : Expr} {ta : TA}
def rgSm (i j : Int) : Bool := smallI i && smallI j && decide ((j - i).toNat ≤ 16777216)
def tupRgD : List D → Option D
  | [.int i, .int j] => if rgSm i j = true then some (.tup (rngL i (j - i).toNat)) else none
  | _ => none
def mTupRg (m : MA) : MD := fun env => (m env).bind fun xs e => ofO (tupRgD xs) e
@[simp] theorem e_tupRg {m : MA} {env : DEnv} : mTupRg m env = (m env).bind fun xs e => ofO (tupRgD xs) e := id rfl
end
end DD
set_option maxHeartbeats 4000000
namespace DD
open PySem PySem.W PySem.Calls PyProof.Rows PySem.HandSPX
def refsB (eb : EB) : List Value → Bool
  | .ref _ :: r => refsB eb r
  | l => l == eb.bm
end DD
namespace DD
open PySem PySem.Spec PyProof.Rows L2
end DD
set_option maxHeartbeats 1000000
namespace DD
open PySem PySem.Spec PyProof.Rows L2
def SnA (σ0 : L2.St) (K : PySem.W.Frag) (W : WX) {α β : Type} (rel : Hp → α → β → Prop) (F0 : Hp) (t : L2.St → Hp → (β → Hp → Prop) → Prop) (m : DEnv → Rs α) : Prop :=
  ∀ (F H : Hp) (env : DEnv) (fp : List Addr) (Q : β → Hp → Prop), Ex F0 F → Rel K F H σ0 env fp → Out K W rel F H σ0 fp Q (m env) → t σ0 H Q
section
variable {K : PySem.W.Frag} {W : WX} {σ0 : L2.St} {F0 : Hp}
theorem Sn.atA {α β : Type} {rel : Hp → α → β → Prop} {t : L2.St → Hp → (β → Hp → Prop) → Prop} {m : DEnv → Rs α} (h : Sn K W rel emp t m) : SnA σ0 K W rel F0 t m := fun F H env fp Q _ R o => h F H σ0 env fp Q ex_emp R o
theorem SnA.go {α β γ δ : Type} {rel1 : Hp → α → β → Prop} {rel2 : Hp → γ → δ → Prop} {t1 : L2.St → Hp → (β → Hp → Prop) → Prop} {m1 : DEnv → Rs α} (h1 : SnA σ0 K W rel1 F0 t1 m1)
    {F H : Hp} {env : DEnv} {fp : List Addr} {mk : α → DEnv → Rs γ} {Q : β → Hp → Prop} {Q2 : δ → Hp → Prop} (e : Ex F0 F) (R : Rel K F H σ0 env fp) (h : Out K W rel2 F H σ0 fp Q2 ((m1 env).bind mk))
    (hk : ∀ F' H' fp' env' a b, Po F H fp F' H' fp' → Rel K F' H' σ0 env' fp' → rel1 F' a b → Out K W rel2 F' H' σ0 fp' Q2 (mk a env') → Q b H') : t1 σ0 H Q := by
  refine h1 F H env fp _ e R ?_
  generalize m1 env = r at h
  cases r with
  | ok a env1 => exact fun F' H' fp' b P R' r' => hk F' H' fp' env1 a b P R' r' (Out.step P h)
  | exc x env1 => exact h
  | fail => exact h
theorem SnA.nil : SnA σ0 K W (Dens K) F0 tNil mNil := Sn.atA sn_nil
theorem SnA.cons {ta : TE} {ma : MD} {t : TA} {m : MA} (ha : SnA σ0 K W (Den K) F0 ta ma) (hr : SnA σ0 K W (Dens K) F0 t m) : SnA σ0 K W (Dens K) F0 (tCons ta t) (mCons ma m) := by
  intro F H env fp Q e0 R h
  refine ha.go e0 R h fun F1 H1 fp1 env1 x v P1 R1 d1 h1 => ?_
  refine hr.go (e0.trans P1.f) R1 h1 fun F2 H2 fp2 env2 y u P2 R2 d2 h2 => ?_
  exact h2 F2 H2 fp2 (v :: u) Po.refl R2 (dens_cons (Den.mono P2.f x v d1) d2)
theorem SnA.lst {t : TA} {m : MA} (ht : SnA σ0 K W (Dens K) F0 t m) : SnA σ0 K W (Den K) F0 (tLst t) (mLst m) := by
  intro F H env fp Q e0 R h
  refine ht.go e0 R h fun F1 H1 fp1 env1 ds xs P1 R1 d1 h1 => ?_
  by_cases hz : ds.length ≤ sizeLine
  · rw [if_pos hz] at h1
    refine ⟨by rw [← Dens.length d1]; exact hz, fun p hp => ?_⟩
    obtain ⟨g, d⟩ := gr_lst R1.ex hp d1
    exact h1 _ _ fp1 _ g.po (R1.grow g) d
  · rw [if_neg hz] at h1
    exact h1.elim
end
end DD
namespace DD
open PySem PySem.Spec PyProof.Rows L2 HotX L2H
/-- what a def promises while an exception is handled -/
structure FnW (P : Program) (w : World) (K : PySem.W.Frag) (mg : Str → Option Value) (base : Heap) (CX : CXT) (k : Nat) (f : Addr) (fd : FuncData) (ps : List Str) (sp : Sp) : Prop where
  len : ∀ vs H Q E, sp vs H Q E → vs.length = ps.length
  run : ∀ (A : Around) (outer : List PySem.Env) (s : Shared) (H : Hp) (args : Args) (us : List Value) (vs : List V) (Q : VK) (E : XK) (p : Addr × Obj), RoomH k A → PinOk outer H s p → Env0 P w K mg base A outer s H → BindsTo s fd args (ps.zip us) → Vals vs us → sp vs H Q E →
    codeAny (model P w) A (.call (.ref f) args) (CR CX outer P w H s Q E) s
end DD
namespace DD
open PySem PySem.Spec PyProof.Rows L2
/-- an expression in the suite of except C as e, e in slot i; the mirror knows the exception -/
structure PXA (X : Cx) (i : Nat) (C : Str) (a : Addr) (cls : Value) (d : Option Addr) (e : Expr) (te : TE) (s : Exn → MD) : Prop where
  pe : PE X e te
  sn : ∀ (x : Exn) (F0 : Hp) (σ0 : L2.St), ExAt X.K F0 x cls d → x.cls = C → σ0[i]? = some (some (.ref a)) → SnA σ0 X.K WF (Den X.K) F0 te (s x)
def oexIn (K : PySem.W.Frag) (C : Addr) : Bool := match K.lookup C with
  | some ⟨.type "type", _, .cls cd, sl⟩ => (match cd.mro, sl.toList with
    | .ref C' :: bm, [_, _, _, _, some (.builtin n), _] => C' == C && !cd.hasDel && cd.hasDict && [EB.v, EB.l, EB.a].any fun eb => n == eb.nw && refsB eb bm
    | _, _ => false)
  | _ => false
def oexfB (C f : Str) : BoolX := fun K => oexIn K (He.ga K C) && (decide (PySem.W.findIn K (.ref (He.ga K C)) "__setattr__" = some (some (.builtin "object.__setattr__"))) && (decide (PySem.W.subIn K (.ref (He.ga K C)) (.type "BaseException") = some true) && (decide (PySem.W.typeIn K (.ref (He.ga K C)) = some (.type "type")) && (PySem.W.keepIn K (.ref (He.ga K C)) &&
  (decide (PySem.W.findIn K (.ref (He.ga K C)) f = some none) && (decide (PySem.W.findIn K (.ref (He.ga K C)) "__init__" = some (some (.ref (maL C "__init__" K)))) && (decide (PySem.W.typeIn K (.ref (maL C "__init__" K)) = some (.type "function")) && xfB K (He.ga K C))))))))
end DD
set_option maxHeartbeats 2000000
namespace DD
open PySem PySem.Spec PyProof.Rows L2
/-- one clause: its class, its slot, its suite -/
abbrev Cl := Value × Nat × (Addr → Value → Option Addr → TS)
inductive ClsOk (X : Cx) : List ExceptHandler → List Cl → Prop
  | nil : ClsOk X [] []
  | cons {x n : Str} {c : Value} {i : Nat} {ts : Addr → Value → Option Addr → TS} {b₀ : Stmt} {suite : List Stmt} {np pos' : Pos} {hds : List ExceptHandler} {l : List Cl} (hc : Names X x c) (hi : X.N[i]? = some n) (hln : X.env.kindOf n = some .local)
      (hsu : ∀ (a : Addr) (oe : Obj) (cls : Value) (d : Option Addr) (pn : List (Addr × Obj)), Zc cls d oe → (∃ vs, oe.data = .fields vs) → PSs (X.suite a ((a, oe) :: pn)) (b₀ :: suite) (ts a cls d)) (r : ClsOk X hds l) :
      ClsOk X (.ExceptHandler (some (.Name x np)) (some n) (b₀ :: suite) pos' :: hds) ((c, i, ts) :: l)
/-- class, slot, which raised classes it meets, the suite -/
abbrev ClM := Str × Nat × List (Str × Bool) × (Exn → MD)
/-- the clauses in Python and over plain data -/
inductive ClsX (X : Cx) (fx : List Nat) : List ExceptHandler → List ClM → List Cl → Prop
  | nil : ClsX X fx [] [] []
  | cons {C n : Str} {i : Nat} {tab : List (Str × Bool)} {suite : Exn → MD} {te : Addr → Value → Option Addr → TE} {e : Expr} {np rp pos' : Pos} {hds : List ExceptHandler} {ms : List ClM} {l : List Cl}
      (hg : Gl X C) (hdb : (C == ("__debug__" : Str)) = false) (gC : X.mg C = some (.ref (cadr X.K C))) (hi : X.N[i]? = some n) (hln : X.env.kindOf n = some .local) (ht : ExmL X.K C tab) (hto : (tab.all fun p => !p.2 || decide (p.1 = C)) = true) (hfx : i ∉ fx)
      (hsu : ∀ (a : Addr) (oe : Obj) (cls : Value) (d : Option Addr) (pn : List (Addr × Obj)), Zc cls d oe → (∃ vs, oe.data = .fields vs) → PXA (X.suite a ((a, oe) :: pn)) i C a cls d e (te a cls d) suite) (r : ClsX X fx hds ms l) :
      ClsX X fx (.ExceptHandler (some (.Name C np)) (some n) [.Return (some e) rp] pos' :: hds) ((C, i, tab, suite) :: ms) ((.ref (cadr X.K C), i, fun a cls d D σ H => te a cls d σ H D.rt) :: l)
section
variable {X : Cx} {W : WX} {fx : List Nat} {hds : List ExceptHandler} {ms : List ClM} {l : List Cl} {pos : Pos}
theorem ClsX.ok (h : ClsX X fx hds ms l) : ClsOk X hds l := by
  induction h with
  | nil => exact .nil
  | cons hg hdb gC hi hln ht hto hfx hsu r ih => exact .cons ⟨hg, hdb, .inl gC⟩ hi hln (fun a oe cls d pn z f => pss_one (ps_ret (hsu a oe cls d pn z f).pe)) ih
end
end DD
set_option maxHeartbeats 3200000
namespace DD
open PySem PySem.Spec PyProof.Rows L2
end DD
set_option maxHeartbeats 1000000
namespace DD
open PySem PySem.Spec PyProof.Rows L2
end DD
namespace DD
open PySem PySem.Spec PyProof.Rows L2
end DD
set_option maxHeartbeats 4000000
namespace DD
open PySem PySem.Spec PyProof.Rows L2
end DD
set_option maxHeartbeats 200000
namespace DD
open PySem PySem.Spec PyProof.Rows L2
end DD
set_option maxHeartbeats 2000000
namespace DD
open PySem PySem.Spec PyProof.Rows L2
end DD
set_option maxHeartbeats 1000000
namespace DD
open PySem PySem.Spec PyProof.Rows L2
end DD
namespace DD
open PySem PySem.Spec PyProof.Rows L2
end DD
namespace DD
open PySem PySem.Spec PyProof.Rows L2
end DD
namespace DD
open PySem PySem.Spec PyProof.Rows L2
end DD
set_option maxHeartbeats 200000
namespace DD
open PySem PySem.Spec PyProof.Rows L2
end DD
set_option maxHeartbeats 2000000
namespace DD
open PySem PySem.Spec PyProof.Rows L2 LamX
/-- what comes of the lambda's call -/
inductive LO where
  | ok (d : D) | exc (x : Exn)
structure LamD (P : Program) (w : World) (K : PySem.W.Frag) (mg : Str → Option Value) (base : Heap) (k : Nat) (x : Str) (R : LO → Option D) : Prop where
  ex : ∃ (g : Addr) (pg : Arguments) (bg : List Stmt) (sg : Scope) (dV kV doc pm cdv ct oc : Value) (an od : Option Addr) (osl : Array (Option Value)) (Ng : List Str) (a : Str),
    mg x = some (.ref g) ∧ PySem.W.keepIn K (.ref g) = true ∧ K.lookup g = some ⟨oc, od, .func (PySem.W.fnOf x x pg bg sg dV kV doc pm an cdv ct), osl⟩ ∧ PySem.W.codeIn K cdv x = true ∧ L2.Binds K (PySem.W.fnOf x x pg bg sg dV kV doc pm an cdv ct) [a] [] ∧
    FnScope Ng [a] sg ∧ Ng[0]? = some a ∧ Vis sg a ∧ (a == ("__debug__" : Str)) = false ∧ (a == ("__classdict__" : Str)) = false ∧
    ∀ (A : Around) (outer : List PySem.Env) (f c' : Addr) (s : Shared) (H : Hp) (q : Str) (tl : XK → Hp → VK → Prop), Roam k (A.deeper (envOfC x sg s.heap.objs.size g cdv)) →
      (∀ (W : WX) (pn : List (Addr × Obj)) (xe : Value → Shared → Prop) (p1 p2 : Pos), Takes ((cxOf C8.CX0 P w K mg base Ng x sg g cdv A outer s H C8.E0).tr pn xe) W →
        PE ((cxOf C8.CX0 P w K mg base Ng x sg g cdv A outer s H C8.E0).tr pn xe) (.Call (.Name a p1) [] [] p2) (fun σZ HZ Q => σZ[0]? = some (some (.ref f)) ∧ HZ c' = some (CodeO c' q) ∧ tl (WE W σZ) HZ Q)) →
      H c' = some (CodeO c' q) → ∃ t, PSs (cxOf C8.CX0 P w K mg base Ng x sg g cdv A outer s H C8.E0).nox bg t ∧
        ∀ (MA : Hp → Hp → Prop) (r : LO) (d' : D) (Q : VK), (∀ F' H', MA F' H' → FHK K F' H') → (∀ F' H' F'' H'', MA F' H' → Gr F' H' F'' H'' → MA F'' H'') →
          (∀ (E : XK) (Qx : VK), (match r with
            | .ok d => ∀ F' H' b, MA F' H' → Den K F' d b → Qx b H'
            | .exc x => ∀ F' H' c dd, MA F' H' → ExAt K F' x c dd → E c dd H') → tl E H Qx) →
          R r = some d' → (∀ F' H' v, MA F' H' → Den K F' d' v → Q v H') → t { nx := fun _ H' => Q .non H', rt := Q } (L2.start Ng [.ref f]) H
end DD
namespace DD
open PySem PySem.Spec PyProof.Rows L2 LamX
end DD
set_option maxHeartbeats 1000000
namespace DD
open PySem PySem.Spec PyProof.Rows L2
end DD
namespace DD
open PySem PySem.Spec PyProof.Rows L2
theorem LamD.mono {P : Program} {w : World} {K : PySem.W.Frag} {mg : Str → Option Value} {base : Heap} {j k : Nat} {x : Str} {R : LO → Option D} (L : LamD P w K mg base j x R) (h : j ≤ k) : LamD P w K mg base k x R := by
  obtain ⟨g, pg, bg, sg, dV, kV, doc, pm, cdv, ct, oc, an, od, osl, Ng, a, h1, h2, h3, h4, h5, h6, h7, h8, h9, h10, run⟩ := L.ex
  exact ⟨g, pg, bg, sg, dV, kV, doc, pm, cdv, ct, oc, an, od, osl, Ng, a, h1, h2, h3, h4, h5, h6, h7, h8, h9, h10, fun A outer f c' s H q tl hr => run A outer f c' s H q tl (hr.mono h)⟩
def noLamB : PySem.W.Frag → Bool := fun K => !lamK K
end DD
namespace DD
open PySem PySem.Spec PyProof.Rows L2
end DD
namespace DD
open PySem PySem.Spec PyProof.Rows L2
end DD
set_option maxHeartbeats 200000
namespace DD
open PySem PySem.Spec PyProof.Rows L2
end DD
set_option maxHeartbeats 1000000
namespace L2
open PySem PySem.Spec PyProof.Rows
end L2
namespace DD
open PySem PySem.Spec PyProof.Rows L2
end DD
namespace DD
open PySem PySem.Spec PyProof.Rows L2
end DD
namespace DD
open PySem PySem.Spec PyProof.Rows L2
end DD
namespace DD
open PySem PySem.Spec PyProof.Rows L2
end DD
namespace DD
open PySem PySem.Spec PyProof.Rows L2
end DD
set_option maxHeartbeats 2000000
namespace DD
open PySem PySem.Spec PyProof.Rows L2
/-- for each class of the clause: which raised classes it meets -/
def exmBs (tabs : List (List (Str × Bool))) (c : Str) : Option Bool := match tabs with
  | [] => some false
  | t :: r => match t.lookup c, exmBs r c with
    | some b, some d => some (b || d)
    | _, _ => none
inductive ClsT (X : Cx) : List Expr → List (List (Str × Bool)) → List Value → Prop
  | nil : ClsT X [] [] []
  | cons {C : Str} {np : Pos} {tab : List (Str × Bool)} {es : List Expr} {tabs : List (List (Str × Bool))} {cs : List Value} (hg : Gl X C) (hdb : (C == ("__debug__" : Str)) = false) (gC : X.mg C = some (.ref (cadr X.K C))) (ht : ExmL X.K C tab) (r : ClsT X es tabs cs) (hst : starEach (.Name C np :: es) X.env = (false, eval (.Name C np) X.env) :: starEach es X.env := by rfl) :
      ClsT X (.Name C np :: es) (tab :: tabs) (.ref (cadr X.K C) :: cs)
theorem ClsT.at_ {X : Cx} {c : Str} : ∀ {es : List Expr} {tabs : List (List (Str × Bool))} {cs : List Value}, ClsT X es tabs cs → ∀ {b : Bool}, exmBs tabs c = some b → PySem.W.exmAny X.K (.ref (cadr X.K c)) cs = some b := fun h => by
  induction h with
  | nil => exact fun e => e
  | cons hg hdb gC ht r hst ih =>
    intro b e
    unfold exmBs at e
    split at e
    · rename_i b1 d1 h1 h2
      have e1 := ht.at_ h1
      have e2 := ih h2
      unfold PySem.W.exmAny
      rw [e1, e2]
      exact e
    · cases e
end DD
set_option maxHeartbeats 1000000
namespace DD
open PySem PySem.Spec PyProof.Rows L2 HotX L2H
/-- room, and what is known of the guards -/
structure RoomV (gd : Bool) (k : Nat) (A : Around) : Prop where
  room : RoomH k A
  gds : gd = true → A.guards = some []
theorem RoomV.mono {gd : Bool} {j k : Nat} {A : Around} (r : RoomV gd k A) (h : j ≤ k) : RoomV gd j A := ⟨r.room.mono h, r.gds⟩
theorem RoomV.gd {k : Nat} {A : Around} (r : RoomV true k A) : A.guards = some [] := r.gds rfl
end DD
set_option maxHeartbeats 2000000
namespace PySem.W
open PySem PySem.Spec PySem.Calls PyProof.Rows
end PySem.W
namespace DD
open PySem PySem.Spec PyProof.Rows L2
/-- which exceptions that are told of are instances of the class cv -/
inductive IsEL (K : PySem.W.Frag) (cv : Value) : List (Str × Bool) → Prop where
  | nil : IsEL K cv []
  | cons {c : Str} {b : Bool} {L : List (Str × Bool)} (hk : PySem.W.kitOne K (.ref (cadr K c)) cv = some b) (t : IsEL K cv L) : IsEL K cv ((c, b) :: L)
theorem IsEL.at_ {K : PySem.W.Frag} {cv : Value} {c : Str} {b : Bool} {L : List (Str × Bool)} (h : IsEL K cv L) (e : L.lookup c = some b) : PySem.W.kitOne K (.ref (cadr K c)) cv = some b := by
  induction h with
  | nil => cases e
  | @cons c2 b2 L hk t ih =>
    by_cases q : c = c2
    · subst q
      rw [List.lookup_cons_self] at e
      cases e
      exact hk
    · rw [List.lookup_cons, show (c == c2) = false from by rw [beq_eq_false_iff_ne]; exact q] at e
      exact ih e
def excCB (K : PySem.W.Frag) (D : Addr) : Bool := decide (PySem.W.findIn K (.ref D) "__getattribute__" = some (some (.builtin "BaseException.__getattribute__"))) && (decide (PySem.W.findIn K (.ref D) "__getattr__" = some none) && (decide (PySem.W.subIn K (.ref D) (.type "BaseException") = some true) && (PySem.W.hasDictIn K D && (decide (PySem.W.findIn K (.ref D) "__class__" = some (some (.builtin "object.__class__"))) &&
  (decide (PySem.W.specialIn K (.builtin "object.__class__") "__get__" = some (some (.builtin "getset_descriptor.__get__"))) && (decide (PySem.W.takesIn K (.builtin "object.__class__") = some true) && (decide (PySem.W.mroIn K D (.type "object") = some true) && xfB K D)))))))
def excsB (T : List Str) : BoolX := fun K => T.all fun c => excCB K (He.ga K c)
def nofsB (T : List Str) (f : Str) : BoolX := fun K => T.all fun c => decide (PySem.W.findIn K (.ref (He.ga K c)) f = some none)
def isEB (C : Str) (L : List (Str × Bool)) : BoolX := fun K => L.all fun p => decide (PySem.W.kitOne K (.ref (He.ga K p.1)) (.ref (He.ga K C)) = some p.2)
def isEbB (B : String) (L : List (Str × Bool)) : BoolX := fun K => L.all fun p => decide (PySem.W.kitOne K (.ref (He.ga K p.1)) (.type B) = some p.2)
end DD
namespace DD
open PySem PySem.Spec PyProof.Rows L2
end DD
namespace DD
open PySem PySem.Spec PyProof.Rows L2 LamX
end DD
namespace DD
open PySem PySem.Spec PyProof.Rows L2 HotX L2H
open Builtin Builtin.List
end DD
set_option maxHeartbeats 1000000
namespace DD
open PySem PySem.Spec PyProof.Rows L2
end DD
namespace DD
open PySem PySem.Spec PyProof.Rows L2
end DD
namespace DD
open PySem PySem.Spec PyProof.Rows L2
end DD
namespace DD
open PySem PySem.Spec PyProof.Rows L2
end DD
set_option maxHeartbeats 200000
namespace DD
open PySem PySem.Spec PyProof.Rows L2
end DD
set_option maxHeartbeats 1000000
namespace DD
open PySem PySem.Spec PyProof.Rows L2
end DD
namespace DD
open PySem PySem.Spec PyProof.Rows L2
end DD
set_option maxHeartbeats 400000
namespace DD
open PySem PySem.Spec PyProof.Rows L2 LamX
end DD
namespace DD
open PySem PySem.Spec PyProof.Rows L2 LamX
end DD
set_option maxHeartbeats 1000000
namespace DD
open PySem PySem.Spec PyProof.Rows L2
end DD
set_option maxHeartbeats 400000
namespace DD
open PySem PySem.Spec PyProof.Rows L2
end DD
namespace DD
open PySem PySem.Spec PyProof.Rows L2
end DD
namespace DD
open PySem PySem.Spec PyProof.Rows L2
end DD
set_option maxHeartbeats 200000
namespace DD
open PySem PySem.Spec PyProof.Rows L2
end DD
namespace DD
open PySem PySem.Spec PyProof.Rows L2
end DD
set_option maxHeartbeats 2000000
namespace DD
open PySem PySem.Spec PyProof.Rows L2
end DD
set_option maxHeartbeats 4000000
namespace PySem.HandSPX
open PySem PySem.Spec PySem.Calls PyProof.Rows L2
end PySem.HandSPX
namespace DD
open PySem PySem.Spec PyProof.Rows L2
end DD
set_option maxHeartbeats 2000000
namespace DD
open PySem PySem.Spec PyProof.Rows L2
end DD
set_option maxHeartbeats 4000000
namespace Law_k01
open PySem PySem.Spec PyProof.Rows L2 DD
def top (i : Nat) : Stmt := PySem.Challenge.pw_readonce_k01_limits_and_errors.main.body.getD i (.Pass ⟨0, 0, 0, 0⟩)
abbrev st_l_jar : Stmt := top 39
abbrev st_l_given_errors : Stmt := top 41
abbrev st_l_index_errors : Stmt := top 42
abbrev st_l_dip : Stmt := top 37
abbrev st_l_one_of : Stmt := top 38
abbrev st_l_sorts : Stmt := top 40
abbrev st_l_right : Stmt := top 43
abbrev st_law : Stmt := top 44
abbrev st_InvalidText_init : Stmt := inClass (top 2) 0
abbrev st_InvalidName_init : Stmt := inClass (top 3) 0
abbrev st_InvalidView_init : Stmt := inClass (top 4) 0
abbrev st_InvalidKind_init : Stmt := inClass (top 5) 0
abbrev st_InvalidWish_init : Stmt := inClass (top 6) 0
abbrev st_InvalidIndex_init : Stmt := inClass (top 7) 0
abbrev st_InvalidNumber_init : Stmt := inClass (top 8) 0
abbrev st_InvalidLine_init : Stmt := inClass (top 9) 0
abbrev st_NotASetting_init : Stmt := inClass (top 10) 0
abbrev st_NotARun_init : Stmt := inClass (top 11) 0
abbrev st_NotARule_init : Stmt := inClass (top 12) 0
abbrev st_InvalidHouses_init : Stmt := inClass (top 13) 0
abbrev st_InvalidFails_init : Stmt := inClass (top 14) 0
abbrev st_InvalidReaders_init : Stmt := inClass (top 15) 0
abbrev st_InvalidPromises_init : Stmt := inClass (top 16) 0
abbrev st_InvalidEvents_init : Stmt := inClass (top 17) 0
abbrev st_InvalidOffers_init : Stmt := inClass (top 18) 0
abbrev st_InvalidDeeds_init : Stmt := inClass (top 19) 0
abbrev st_UnknownName_init : Stmt := inClass (top 21) 0
abbrev st_NotReady_init : Stmt := inClass (top 24) 0
abbrev st_Broken_init : Stmt := inClass (top 25) 0
abbrev st_InUse_init : Stmt := inClass (top 26) 0
def fnL : List DefX := [⟨gaL "_law_jar", "_law_jar", "_law_jar", st_l_jar⟩,
  ⟨gaL "_law_given_errors", "_law_given_errors", "_law_given_errors", st_l_given_errors⟩,
  ⟨gaL "_law_index_errors", "_law_index_errors", "_law_index_errors", st_l_index_errors⟩,
  ⟨gaL "_law_dip", "_law_dip", "_law_dip", st_l_dip⟩,
  ⟨gaL "_law_one_of", "_law_one_of", "_law_one_of", st_l_one_of⟩,
  ⟨gaL "_law_sorts", "_law_sorts", "_law_sorts", st_l_sorts⟩,
  ⟨gaL "_law_right", "_law_right", "_law_right", st_l_right⟩,
  ⟨gaL "law", "law", "law", st_law⟩,
  ⟨maL "InvalidText" "__init__", "__init__", "InvalidText.__init__", st_InvalidText_init⟩,
  ⟨maL "InvalidName" "__init__", "__init__", "InvalidName.__init__", st_InvalidName_init⟩,
  ⟨maL "InvalidView" "__init__", "__init__", "InvalidView.__init__", st_InvalidView_init⟩,
  ⟨maL "InvalidKind" "__init__", "__init__", "InvalidKind.__init__", st_InvalidKind_init⟩,
  ⟨maL "InvalidWish" "__init__", "__init__", "InvalidWish.__init__", st_InvalidWish_init⟩,
  ⟨maL "InvalidIndex" "__init__", "__init__", "InvalidIndex.__init__", st_InvalidIndex_init⟩,
  ⟨maL "InvalidNumber" "__init__", "__init__", "InvalidNumber.__init__", st_InvalidNumber_init⟩,
  ⟨maL "InvalidLine" "__init__", "__init__", "InvalidLine.__init__", st_InvalidLine_init⟩,
  ⟨maL "NotASetting" "__init__", "__init__", "NotASetting.__init__", st_NotASetting_init⟩,
  ⟨maL "NotARun" "__init__", "__init__", "NotARun.__init__", st_NotARun_init⟩,
  ⟨maL "NotARule" "__init__", "__init__", "NotARule.__init__", st_NotARule_init⟩,
  ⟨maL "InvalidHouses" "__init__", "__init__", "InvalidHouses.__init__", st_InvalidHouses_init⟩,
  ⟨maL "InvalidFails" "__init__", "__init__", "InvalidFails.__init__", st_InvalidFails_init⟩,
  ⟨maL "InvalidReaders" "__init__", "__init__", "InvalidReaders.__init__", st_InvalidReaders_init⟩,
  ⟨maL "InvalidPromises" "__init__", "__init__", "InvalidPromises.__init__", st_InvalidPromises_init⟩,
  ⟨maL "InvalidEvents" "__init__", "__init__", "InvalidEvents.__init__", st_InvalidEvents_init⟩,
  ⟨maL "InvalidOffers" "__init__", "__init__", "InvalidOffers.__init__", st_InvalidOffers_init⟩,
  ⟨maL "InvalidDeeds" "__init__", "__init__", "InvalidDeeds.__init__", st_InvalidDeeds_init⟩,
  ⟨maL "UnknownName" "__init__", "__init__", "UnknownName.__init__", st_UnknownName_init⟩,
  ⟨maL "NotReady" "__init__", "__init__", "NotReady.__init__", st_NotReady_init⟩,
  ⟨maL "Broken" "__init__", "__init__", "Broken.__init__", st_Broken_init⟩,
  ⟨maL "InUse" "__init__", "__init__", "InUse.__init__", st_InUse_init⟩]
def faL : List BoolX := [faB (.glo "_law_jar"),
  faB (.glo "_law_given_errors"),
  faB (.glo "_law_index_errors"),
  faB (.glo "_law_dip"),
  faB (.glo "_law_one_of"),
  faB (.glo "_law_sorts"),
  faB (.glo "_law_right"),
  faB (.glo "law"),
  faB (.free "len"),
  faB (.free "int"),
  faB (.free "abs"),
  faB (.free "divmod"),
  faB (.free "isinstance"),
  faB (.free "ValueError"),
  faB (.free "LookupError"),
  faB (.free "ArithmeticError"),
  faB (.free "range"),
  faB (.free "enumerate"),
  faB (.free "repr"),
  faB (.free "all"),
  faB (.free "min"),
  faB (.free "max"),
  faB (.int "MOST_HOUSES" 8),
  faB (.int "MOST_FAILS" 8),
  faB (.int "MOST_READERS" 5),
  faB (.int "MOST_LEVELS" 5),
  faB (.int "MOST_LEVEL" 8),
  faB (.int "MOST_OFFERS" 6),
  faB (.int "MOST_NUMBER" 1000000000000000000000000000000),
  faB (.str "WRITER" "w"),
  excB "NoRule" .a,
  excB "NothingToUndo" .a,
  excB "WrongValue" .v,
  excB "WrongName" .l,
  excB "NoAnswer" .a,
  oexfB "InvalidText" "given",
  oexfB "InvalidName" "given",
  oexfB "InvalidView" "given",
  oexfB "InvalidKind" "given",
  oexfB "InvalidWish" "given",
  oexfB "InvalidIndex" "given",
  oexfB "InvalidNumber" "given",
  oexfB "InvalidLine" "given",
  oexfB "NotASetting" "given",
  oexfB "NotARun" "given",
  oexfB "NotARule" "given",
  oexfB "InvalidHouses" "index",
  oexfB "InvalidFails" "index",
  oexfB "InvalidReaders" "index",
  oexfB "InvalidPromises" "index",
  oexfB "InvalidEvents" "index",
  oexfB "InvalidOffers" "index",
  oexfB "InvalidDeeds" "index",
  oexfB "UnknownName" "given",
  oexfB "NotReady" "given",
  oexfB "Broken" "index",
  oexfB "InUse" "index",
  faB (.glo "InvalidText"),
  faB (.glo "InvalidName"),
  faB (.glo "InvalidView"),
  faB (.glo "InvalidKind"),
  faB (.glo "InvalidWish"),
  faB (.glo "InvalidIndex"),
  faB (.glo "InvalidNumber"),
  faB (.glo "InvalidLine"),
  faB (.glo "NotASetting"),
  faB (.glo "NotARun"),
  faB (.glo "NotARule"),
  faB (.glo "InvalidHouses"),
  faB (.glo "InvalidFails"),
  faB (.glo "InvalidReaders"),
  faB (.glo "InvalidPromises"),
  faB (.glo "InvalidEvents"),
  faB (.glo "InvalidOffers"),
  faB (.glo "InvalidDeeds"),
  faB (.glo "UnknownName"),
  faB (.glo "NoRule"),
  faB (.glo "NotReady"),
  faB (.glo "Broken"),
  faB (.glo "InUse"),
  faB (.glo "NothingToUndo"),
  faB (.glo "WrongValue"),
  faB (.glo "WrongName"),
  faB (.glo "NoAnswer"),
  excsB ["WrongValue", "InvalidText", "InvalidName", "InvalidView", "InvalidKind", "InvalidWish", "InvalidIndex", "InvalidNumber", "InvalidLine", "NotASetting", "NotARun", "NotARule", "InvalidHouses", "InvalidFails", "InvalidReaders", "InvalidPromises", "InvalidEvents", "InvalidOffers", "InvalidDeeds", "WrongName", "UnknownName", "NoAnswer", "NoRule", "NotReady", "Broken", "InUse", "NothingToUndo"],
  nofsB ["WrongValue", "InvalidText", "InvalidName", "InvalidView", "InvalidKind", "InvalidWish", "InvalidIndex", "InvalidNumber", "InvalidLine", "NotASetting", "NotARun", "NotARule", "InvalidHouses", "InvalidFails", "InvalidReaders", "InvalidPromises", "InvalidEvents", "InvalidOffers", "InvalidDeeds", "WrongName", "UnknownName", "NoAnswer", "NoRule", "NotReady", "Broken", "InUse", "NothingToUndo"] "given",
  nofsB ["WrongValue", "InvalidText", "InvalidName", "InvalidView", "InvalidKind", "InvalidWish", "InvalidIndex", "InvalidNumber", "InvalidLine", "NotASetting", "NotARun", "NotARule", "InvalidHouses", "InvalidFails", "InvalidReaders", "InvalidPromises", "InvalidEvents", "InvalidOffers", "InvalidDeeds", "WrongName", "UnknownName", "NoAnswer", "NoRule", "NotReady", "Broken", "InUse", "NothingToUndo"] "index",
  isEB "InvalidText" [("WrongValue", false), ("InvalidText", true), ("InvalidName", false), ("InvalidView", false), ("InvalidKind", false), ("InvalidWish", false), ("InvalidIndex", false), ("InvalidNumber", false), ("InvalidLine", false), ("NotASetting", false), ("NotARun", false), ("NotARule", false), ("InvalidHouses", false), ("InvalidFails", false), ("InvalidReaders", false), ("InvalidPromises", false), ("InvalidEvents", false), ("InvalidOffers", false), ("InvalidDeeds", false), ("WrongName", false), ("UnknownName", false), ("NoAnswer", false), ("NoRule", false), ("NotReady", false), ("Broken", false), ("InUse", false), ("NothingToUndo", false)],
  isEB "InvalidName" [("WrongValue", false), ("InvalidText", false), ("InvalidName", true), ("InvalidView", false), ("InvalidKind", false), ("InvalidWish", false), ("InvalidIndex", false), ("InvalidNumber", false), ("InvalidLine", false), ("NotASetting", false), ("NotARun", false), ("NotARule", false), ("InvalidHouses", false), ("InvalidFails", false), ("InvalidReaders", false), ("InvalidPromises", false), ("InvalidEvents", false), ("InvalidOffers", false), ("InvalidDeeds", false), ("WrongName", false), ("UnknownName", false), ("NoAnswer", false), ("NoRule", false), ("NotReady", false), ("Broken", false), ("InUse", false), ("NothingToUndo", false)],
  isEB "InvalidView" [("WrongValue", false), ("InvalidText", false), ("InvalidName", false), ("InvalidView", true), ("InvalidKind", false), ("InvalidWish", false), ("InvalidIndex", false), ("InvalidNumber", false), ("InvalidLine", false), ("NotASetting", false), ("NotARun", false), ("NotARule", false), ("InvalidHouses", false), ("InvalidFails", false), ("InvalidReaders", false), ("InvalidPromises", false), ("InvalidEvents", false), ("InvalidOffers", false), ("InvalidDeeds", false), ("WrongName", false), ("UnknownName", false), ("NoAnswer", false), ("NoRule", false), ("NotReady", false), ("Broken", false), ("InUse", false), ("NothingToUndo", false)],
  isEB "InvalidKind" [("WrongValue", false), ("InvalidText", false), ("InvalidName", false), ("InvalidView", false), ("InvalidKind", true), ("InvalidWish", false), ("InvalidIndex", false), ("InvalidNumber", false), ("InvalidLine", false), ("NotASetting", false), ("NotARun", false), ("NotARule", false), ("InvalidHouses", false), ("InvalidFails", false), ("InvalidReaders", false), ("InvalidPromises", false), ("InvalidEvents", false), ("InvalidOffers", false), ("InvalidDeeds", false), ("WrongName", false), ("UnknownName", false), ("NoAnswer", false), ("NoRule", false), ("NotReady", false), ("Broken", false), ("InUse", false), ("NothingToUndo", false)],
  isEB "InvalidWish" [("WrongValue", false), ("InvalidText", false), ("InvalidName", false), ("InvalidView", false), ("InvalidKind", false), ("InvalidWish", true), ("InvalidIndex", false), ("InvalidNumber", false), ("InvalidLine", false), ("NotASetting", false), ("NotARun", false), ("NotARule", false), ("InvalidHouses", false), ("InvalidFails", false), ("InvalidReaders", false), ("InvalidPromises", false), ("InvalidEvents", false), ("InvalidOffers", false), ("InvalidDeeds", false), ("WrongName", false), ("UnknownName", false), ("NoAnswer", false), ("NoRule", false), ("NotReady", false), ("Broken", false), ("InUse", false), ("NothingToUndo", false)],
  isEB "InvalidIndex" [("WrongValue", false), ("InvalidText", false), ("InvalidName", false), ("InvalidView", false), ("InvalidKind", false), ("InvalidWish", false), ("InvalidIndex", true), ("InvalidNumber", false), ("InvalidLine", false), ("NotASetting", false), ("NotARun", false), ("NotARule", false), ("InvalidHouses", false), ("InvalidFails", false), ("InvalidReaders", false), ("InvalidPromises", false), ("InvalidEvents", false), ("InvalidOffers", false), ("InvalidDeeds", false), ("WrongName", false), ("UnknownName", false), ("NoAnswer", false), ("NoRule", false), ("NotReady", false), ("Broken", false), ("InUse", false), ("NothingToUndo", false)],
  isEB "InvalidNumber" [("WrongValue", false), ("InvalidText", false), ("InvalidName", false), ("InvalidView", false), ("InvalidKind", false), ("InvalidWish", false), ("InvalidIndex", false), ("InvalidNumber", true), ("InvalidLine", false), ("NotASetting", false), ("NotARun", false), ("NotARule", false), ("InvalidHouses", false), ("InvalidFails", false), ("InvalidReaders", false), ("InvalidPromises", false), ("InvalidEvents", false), ("InvalidOffers", false), ("InvalidDeeds", false), ("WrongName", false), ("UnknownName", false), ("NoAnswer", false), ("NoRule", false), ("NotReady", false), ("Broken", false), ("InUse", false), ("NothingToUndo", false)],
  isEB "InvalidLine" [("WrongValue", false), ("InvalidText", false), ("InvalidName", false), ("InvalidView", false), ("InvalidKind", false), ("InvalidWish", false), ("InvalidIndex", false), ("InvalidNumber", false), ("InvalidLine", true), ("NotASetting", false), ("NotARun", false), ("NotARule", false), ("InvalidHouses", false), ("InvalidFails", false), ("InvalidReaders", false), ("InvalidPromises", false), ("InvalidEvents", false), ("InvalidOffers", false), ("InvalidDeeds", false), ("WrongName", false), ("UnknownName", false), ("NoAnswer", false), ("NoRule", false), ("NotReady", false), ("Broken", false), ("InUse", false), ("NothingToUndo", false)],
  isEB "NotASetting" [("WrongValue", false), ("InvalidText", false), ("InvalidName", false), ("InvalidView", false), ("InvalidKind", false), ("InvalidWish", false), ("InvalidIndex", false), ("InvalidNumber", false), ("InvalidLine", false), ("NotASetting", true), ("NotARun", false), ("NotARule", false), ("InvalidHouses", false), ("InvalidFails", false), ("InvalidReaders", false), ("InvalidPromises", false), ("InvalidEvents", false), ("InvalidOffers", false), ("InvalidDeeds", false), ("WrongName", false), ("UnknownName", false), ("NoAnswer", false), ("NoRule", false), ("NotReady", false), ("Broken", false), ("InUse", false), ("NothingToUndo", false)],
  isEB "NotARun" [("WrongValue", false), ("InvalidText", false), ("InvalidName", false), ("InvalidView", false), ("InvalidKind", false), ("InvalidWish", false), ("InvalidIndex", false), ("InvalidNumber", false), ("InvalidLine", false), ("NotASetting", false), ("NotARun", true), ("NotARule", false), ("InvalidHouses", false), ("InvalidFails", false), ("InvalidReaders", false), ("InvalidPromises", false), ("InvalidEvents", false), ("InvalidOffers", false), ("InvalidDeeds", false), ("WrongName", false), ("UnknownName", false), ("NoAnswer", false), ("NoRule", false), ("NotReady", false), ("Broken", false), ("InUse", false), ("NothingToUndo", false)],
  isEB "NotARule" [("WrongValue", false), ("InvalidText", false), ("InvalidName", false), ("InvalidView", false), ("InvalidKind", false), ("InvalidWish", false), ("InvalidIndex", false), ("InvalidNumber", false), ("InvalidLine", false), ("NotASetting", false), ("NotARun", false), ("NotARule", true), ("InvalidHouses", false), ("InvalidFails", false), ("InvalidReaders", false), ("InvalidPromises", false), ("InvalidEvents", false), ("InvalidOffers", false), ("InvalidDeeds", false), ("WrongName", false), ("UnknownName", false), ("NoAnswer", false), ("NoRule", false), ("NotReady", false), ("Broken", false), ("InUse", false), ("NothingToUndo", false)],
  isEB "InvalidHouses" [("WrongValue", false), ("InvalidText", false), ("InvalidName", false), ("InvalidView", false), ("InvalidKind", false), ("InvalidWish", false), ("InvalidIndex", false), ("InvalidNumber", false), ("InvalidLine", false), ("NotASetting", false), ("NotARun", false), ("NotARule", false), ("InvalidHouses", true), ("InvalidFails", false), ("InvalidReaders", false), ("InvalidPromises", false), ("InvalidEvents", false), ("InvalidOffers", false), ("InvalidDeeds", false), ("WrongName", false), ("UnknownName", false), ("NoAnswer", false), ("NoRule", false), ("NotReady", false), ("Broken", false), ("InUse", false), ("NothingToUndo", false)],
  isEB "InvalidFails" [("WrongValue", false), ("InvalidText", false), ("InvalidName", false), ("InvalidView", false), ("InvalidKind", false), ("InvalidWish", false), ("InvalidIndex", false), ("InvalidNumber", false), ("InvalidLine", false), ("NotASetting", false), ("NotARun", false), ("NotARule", false), ("InvalidHouses", false), ("InvalidFails", true), ("InvalidReaders", false), ("InvalidPromises", false), ("InvalidEvents", false), ("InvalidOffers", false), ("InvalidDeeds", false), ("WrongName", false), ("UnknownName", false), ("NoAnswer", false), ("NoRule", false), ("NotReady", false), ("Broken", false), ("InUse", false), ("NothingToUndo", false)],
  isEB "InvalidReaders" [("WrongValue", false), ("InvalidText", false), ("InvalidName", false), ("InvalidView", false), ("InvalidKind", false), ("InvalidWish", false), ("InvalidIndex", false), ("InvalidNumber", false), ("InvalidLine", false), ("NotASetting", false), ("NotARun", false), ("NotARule", false), ("InvalidHouses", false), ("InvalidFails", false), ("InvalidReaders", true), ("InvalidPromises", false), ("InvalidEvents", false), ("InvalidOffers", false), ("InvalidDeeds", false), ("WrongName", false), ("UnknownName", false), ("NoAnswer", false), ("NoRule", false), ("NotReady", false), ("Broken", false), ("InUse", false), ("NothingToUndo", false)],
  isEB "InvalidPromises" [("WrongValue", false), ("InvalidText", false), ("InvalidName", false), ("InvalidView", false), ("InvalidKind", false), ("InvalidWish", false), ("InvalidIndex", false), ("InvalidNumber", false), ("InvalidLine", false), ("NotASetting", false), ("NotARun", false), ("NotARule", false), ("InvalidHouses", false), ("InvalidFails", false), ("InvalidReaders", false), ("InvalidPromises", true), ("InvalidEvents", false), ("InvalidOffers", false), ("InvalidDeeds", false), ("WrongName", false), ("UnknownName", false), ("NoAnswer", false), ("NoRule", false), ("NotReady", false), ("Broken", false), ("InUse", false), ("NothingToUndo", false)],
  isEB "InvalidEvents" [("WrongValue", false), ("InvalidText", false), ("InvalidName", false), ("InvalidView", false), ("InvalidKind", false), ("InvalidWish", false), ("InvalidIndex", false), ("InvalidNumber", false), ("InvalidLine", false), ("NotASetting", false), ("NotARun", false), ("NotARule", false), ("InvalidHouses", false), ("InvalidFails", false), ("InvalidReaders", false), ("InvalidPromises", false), ("InvalidEvents", true), ("InvalidOffers", false), ("InvalidDeeds", false), ("WrongName", false), ("UnknownName", false), ("NoAnswer", false), ("NoRule", false), ("NotReady", false), ("Broken", false), ("InUse", false), ("NothingToUndo", false)],
  isEB "InvalidOffers" [("WrongValue", false), ("InvalidText", false), ("InvalidName", false), ("InvalidView", false), ("InvalidKind", false), ("InvalidWish", false), ("InvalidIndex", false), ("InvalidNumber", false), ("InvalidLine", false), ("NotASetting", false), ("NotARun", false), ("NotARule", false), ("InvalidHouses", false), ("InvalidFails", false), ("InvalidReaders", false), ("InvalidPromises", false), ("InvalidEvents", false), ("InvalidOffers", true), ("InvalidDeeds", false), ("WrongName", false), ("UnknownName", false), ("NoAnswer", false), ("NoRule", false), ("NotReady", false), ("Broken", false), ("InUse", false), ("NothingToUndo", false)],
  isEB "InvalidDeeds" [("WrongValue", false), ("InvalidText", false), ("InvalidName", false), ("InvalidView", false), ("InvalidKind", false), ("InvalidWish", false), ("InvalidIndex", false), ("InvalidNumber", false), ("InvalidLine", false), ("NotASetting", false), ("NotARun", false), ("NotARule", false), ("InvalidHouses", false), ("InvalidFails", false), ("InvalidReaders", false), ("InvalidPromises", false), ("InvalidEvents", false), ("InvalidOffers", false), ("InvalidDeeds", true), ("WrongName", false), ("UnknownName", false), ("NoAnswer", false), ("NoRule", false), ("NotReady", false), ("Broken", false), ("InUse", false), ("NothingToUndo", false)],
  isEB "UnknownName" [("WrongValue", false), ("InvalidText", false), ("InvalidName", false), ("InvalidView", false), ("InvalidKind", false), ("InvalidWish", false), ("InvalidIndex", false), ("InvalidNumber", false), ("InvalidLine", false), ("NotASetting", false), ("NotARun", false), ("NotARule", false), ("InvalidHouses", false), ("InvalidFails", false), ("InvalidReaders", false), ("InvalidPromises", false), ("InvalidEvents", false), ("InvalidOffers", false), ("InvalidDeeds", false), ("WrongName", false), ("UnknownName", true), ("NoAnswer", false), ("NoRule", false), ("NotReady", false), ("Broken", false), ("InUse", false), ("NothingToUndo", false)],
  isEB "NoRule" [("WrongValue", false), ("InvalidText", false), ("InvalidName", false), ("InvalidView", false), ("InvalidKind", false), ("InvalidWish", false), ("InvalidIndex", false), ("InvalidNumber", false), ("InvalidLine", false), ("NotASetting", false), ("NotARun", false), ("NotARule", false), ("InvalidHouses", false), ("InvalidFails", false), ("InvalidReaders", false), ("InvalidPromises", false), ("InvalidEvents", false), ("InvalidOffers", false), ("InvalidDeeds", false), ("WrongName", false), ("UnknownName", false), ("NoAnswer", false), ("NoRule", true), ("NotReady", false), ("Broken", false), ("InUse", false), ("NothingToUndo", false)],
  isEB "NotReady" [("WrongValue", false), ("InvalidText", false), ("InvalidName", false), ("InvalidView", false), ("InvalidKind", false), ("InvalidWish", false), ("InvalidIndex", false), ("InvalidNumber", false), ("InvalidLine", false), ("NotASetting", false), ("NotARun", false), ("NotARule", false), ("InvalidHouses", false), ("InvalidFails", false), ("InvalidReaders", false), ("InvalidPromises", false), ("InvalidEvents", false), ("InvalidOffers", false), ("InvalidDeeds", false), ("WrongName", false), ("UnknownName", false), ("NoAnswer", false), ("NoRule", false), ("NotReady", true), ("Broken", false), ("InUse", false), ("NothingToUndo", false)],
  isEB "Broken" [("WrongValue", false), ("InvalidText", false), ("InvalidName", false), ("InvalidView", false), ("InvalidKind", false), ("InvalidWish", false), ("InvalidIndex", false), ("InvalidNumber", false), ("InvalidLine", false), ("NotASetting", false), ("NotARun", false), ("NotARule", false), ("InvalidHouses", false), ("InvalidFails", false), ("InvalidReaders", false), ("InvalidPromises", false), ("InvalidEvents", false), ("InvalidOffers", false), ("InvalidDeeds", false), ("WrongName", false), ("UnknownName", false), ("NoAnswer", false), ("NoRule", false), ("NotReady", false), ("Broken", true), ("InUse", false), ("NothingToUndo", false)],
  isEB "InUse" [("WrongValue", false), ("InvalidText", false), ("InvalidName", false), ("InvalidView", false), ("InvalidKind", false), ("InvalidWish", false), ("InvalidIndex", false), ("InvalidNumber", false), ("InvalidLine", false), ("NotASetting", false), ("NotARun", false), ("NotARule", false), ("InvalidHouses", false), ("InvalidFails", false), ("InvalidReaders", false), ("InvalidPromises", false), ("InvalidEvents", false), ("InvalidOffers", false), ("InvalidDeeds", false), ("WrongName", false), ("UnknownName", false), ("NoAnswer", false), ("NoRule", false), ("NotReady", false), ("Broken", false), ("InUse", true), ("NothingToUndo", false)],
  isEB "NothingToUndo" [("WrongValue", false), ("InvalidText", false), ("InvalidName", false), ("InvalidView", false), ("InvalidKind", false), ("InvalidWish", false), ("InvalidIndex", false), ("InvalidNumber", false), ("InvalidLine", false), ("NotASetting", false), ("NotARun", false), ("NotARule", false), ("InvalidHouses", false), ("InvalidFails", false), ("InvalidReaders", false), ("InvalidPromises", false), ("InvalidEvents", false), ("InvalidOffers", false), ("InvalidDeeds", false), ("WrongName", false), ("UnknownName", false), ("NoAnswer", false), ("NoRule", false), ("NotReady", false), ("Broken", false), ("InUse", false), ("NothingToUndo", true)],
  isEB "WrongValue" [("WrongValue", true), ("InvalidText", true), ("InvalidName", true), ("InvalidView", true), ("InvalidKind", true), ("InvalidWish", true), ("InvalidIndex", true), ("InvalidNumber", true), ("InvalidLine", true), ("NotASetting", true), ("NotARun", true), ("NotARule", true), ("InvalidHouses", true), ("InvalidFails", true), ("InvalidReaders", true), ("InvalidPromises", true), ("InvalidEvents", true), ("InvalidOffers", true), ("InvalidDeeds", true), ("WrongName", false), ("UnknownName", false), ("NoAnswer", false), ("NoRule", false), ("NotReady", false), ("Broken", false), ("InUse", false), ("NothingToUndo", false)],
  isEB "WrongName" [("WrongValue", false), ("InvalidText", false), ("InvalidName", false), ("InvalidView", false), ("InvalidKind", false), ("InvalidWish", false), ("InvalidIndex", false), ("InvalidNumber", false), ("InvalidLine", false), ("NotASetting", false), ("NotARun", false), ("NotARule", false), ("InvalidHouses", false), ("InvalidFails", false), ("InvalidReaders", false), ("InvalidPromises", false), ("InvalidEvents", false), ("InvalidOffers", false), ("InvalidDeeds", false), ("WrongName", true), ("UnknownName", true), ("NoAnswer", false), ("NoRule", false), ("NotReady", false), ("Broken", false), ("InUse", false), ("NothingToUndo", false)],
  isEB "NoAnswer" [("WrongValue", false), ("InvalidText", false), ("InvalidName", false), ("InvalidView", false), ("InvalidKind", false), ("InvalidWish", false), ("InvalidIndex", false), ("InvalidNumber", false), ("InvalidLine", false), ("NotASetting", false), ("NotARun", false), ("NotARule", false), ("InvalidHouses", false), ("InvalidFails", false), ("InvalidReaders", false), ("InvalidPromises", false), ("InvalidEvents", false), ("InvalidOffers", false), ("InvalidDeeds", false), ("WrongName", false), ("UnknownName", false), ("NoAnswer", true), ("NoRule", true), ("NotReady", true), ("Broken", true), ("InUse", true), ("NothingToUndo", true)],
  isEbB "ValueError" [("WrongValue", true), ("InvalidText", true), ("InvalidName", true), ("InvalidView", true), ("InvalidKind", true), ("InvalidWish", true), ("InvalidIndex", true), ("InvalidNumber", true), ("InvalidLine", true), ("NotASetting", true), ("NotARun", true), ("NotARule", true), ("InvalidHouses", true), ("InvalidFails", true), ("InvalidReaders", true), ("InvalidPromises", true), ("InvalidEvents", true), ("InvalidOffers", true), ("InvalidDeeds", true), ("WrongName", false), ("UnknownName", false), ("NoAnswer", false), ("NoRule", false), ("NotReady", false), ("Broken", false), ("InUse", false), ("NothingToUndo", false)],
  isEbB "LookupError" [("WrongValue", false), ("InvalidText", false), ("InvalidName", false), ("InvalidView", false), ("InvalidKind", false), ("InvalidWish", false), ("InvalidIndex", false), ("InvalidNumber", false), ("InvalidLine", false), ("NotASetting", false), ("NotARun", false), ("NotARule", false), ("InvalidHouses", false), ("InvalidFails", false), ("InvalidReaders", false), ("InvalidPromises", false), ("InvalidEvents", false), ("InvalidOffers", false), ("InvalidDeeds", false), ("WrongName", true), ("UnknownName", true), ("NoAnswer", false), ("NoRule", false), ("NotReady", false), ("Broken", false), ("InUse", false), ("NothingToUndo", false)],
  isEbB "ArithmeticError" [("WrongValue", false), ("InvalidText", false), ("InvalidName", false), ("InvalidView", false), ("InvalidKind", false), ("InvalidWish", false), ("InvalidIndex", false), ("InvalidNumber", false), ("InvalidLine", false), ("NotASetting", false), ("NotARun", false), ("NotARule", false), ("InvalidHouses", false), ("InvalidFails", false), ("InvalidReaders", false), ("InvalidPromises", false), ("InvalidEvents", false), ("InvalidOffers", false), ("InvalidDeeds", false), ("WrongName", false), ("UnknownName", false), ("NoAnswer", true), ("NoRule", true), ("NotReady", true), ("Broken", true), ("InUse", true), ("NothingToUndo", true)],
  noLamB]
end Law_k01
set_option maxHeartbeats 0
namespace Law_k01
open PySem PySem.Spec PyProof.Rows L2 DD
abbrev R : PySem.W.OpenRow := PySem.W.OpenLaw.row PySem.Challenge.rw_readonce_k01_limits_and_errors
def fnNs0 : List Str := ["_law_jar", "_law_given_errors", "_law_index_errors", "_law_dip", "_law_one_of", "_law_sorts", "_law_right", "law"]
def fnNs : List Str := fnNs0
def clNs0 : List Str := ["NoRule", "NothingToUndo", "WrongValue", "WrongName", "NoAnswer", "InvalidText", "InvalidName", "InvalidView", "InvalidKind", "InvalidWish", "InvalidIndex", "InvalidNumber", "InvalidLine", "NotASetting", "NotARun", "NotARule", "InvalidHouses", "InvalidFails", "InvalidReaders", "InvalidPromises"]
def clNs1 : List Str := ["InvalidEvents", "InvalidOffers", "InvalidDeeds", "UnknownName", "NotReady", "Broken", "InUse"]
def clNs : List Str := clNs0 ++ clNs1
abbrev hk : PySem.W.Hook := hookS fnNs clNs faL fnL
def ob (s : PySem.W.SharedT) : He.AlD := obsXS fnNs clNs faL fnL (HandSHeadRun.getT s)
def lo0 : List Str := ["__name__", "WrongValue", "InvalidText", "InvalidName", "InvalidView", "InvalidKind", "InvalidWish", "InvalidIndex", "InvalidNumber", "InvalidLine", "NotASetting", "NotARun", "NotARule", "InvalidHouses", "InvalidFails", "InvalidReaders", "InvalidPromises", "InvalidEvents", "InvalidOffers", "InvalidDeeds"]
def lo1 : List Str := ["WrongName", "UnknownName", "NoAnswer", "NoRule", "NotReady", "Broken", "InUse", "NothingToUndo", "MOST_HOUSES", "MOST_FAILS", "MOST_READERS", "MOST_LEVELS", "MOST_LEVEL", "MOST_OFFERS", "MOST_NUMBER", "WRITER", "_law_dip", "_law_one_of", "_law_jar", "_law_sorts"]
def lo2 : List Str := ["_law_given_errors", "_law_index_errors", "_law_right"]
def loose : List Str := lo0 ++ lo1 ++ lo2
theorem run (w : World) : HandSHeadRun.RunEq R (PySem.W.view R.prog [44]) hk ob 16000 loose w := by
  intro os
  kernel_rfl
end Law_k01
set_option maxHeartbeats 200000
namespace DD
open PySem PySem.Spec PyProof.Rows L2
end DD
namespace DD
open PySem PySem.Spec PyProof.Rows L2
end DD
namespace DD
open PySem PySem.Spec PyProof.Rows L2
end DD
namespace DD
open PySem PySem.Spec PyProof.Rows L2
end DD
namespace DD
open PySem
end DD
namespace DD
open PySem PySem.Spec PyProof.Rows L2
end DD
set_option maxHeartbeats 4000000
namespace Mi
open PySem PySem.Spec PyProof.Rows L2 DD
end Mi
namespace Mi
open PySem PySem.Spec PyProof.Rows L2 DD
end Mi
namespace Mi
open PySem PySem.Spec PyProof.Rows L2 DD
end Mi
namespace Mi
open PySem PySem.Spec PyProof.Rows L2 DD
end Mi
namespace Mi
open PySem PySem.Spec PyProof.Rows L2 DD
end Mi
namespace Mi
open PySem PySem.Spec PyProof.Rows L2 DD
end Mi
namespace Mi
open PySem PySem.Spec PyProof.Rows L2 DD
end Mi
namespace Mi
open PySem PySem.Spec PyProof.Rows L2 DD
end Mi
namespace Mi
open PySem PySem.Spec PyProof.Rows L2 DD
end Mi
namespace Mi
open PySem PySem.Spec PyProof.Rows L2 DD
end Mi
namespace Mi
open PySem PySem.Spec PyProof.Rows L2 DD
end Mi
namespace Mi
open PySem PySem.Spec PyProof.Rows L2 DD
end Mi
namespace Mi
open PySem PySem.Spec PyProof.Rows L2 DD
end Mi
namespace Mi
open PySem PySem.Spec PyProof.Rows L2 DD
end Mi
namespace Mi
open PySem PySem.Spec PyProof.Rows L2 DD
end Mi
namespace Mi
open PySem PySem.Spec PyProof.Rows L2 DD
end Mi
namespace Mi
open PySem PySem.Spec PyProof.Rows L2 DD
end Mi
namespace Mi
open PySem PySem.Spec PyProof.Rows L2 DD
end Mi
namespace Mi
open PySem PySem.Spec PyProof.Rows L2 DD
end Mi
namespace Mi
open PySem PySem.Spec PyProof.Rows L2 DD
end Mi
namespace Mi
open PySem PySem.Spec PyProof.Rows L2 DD
end Mi
namespace Mi
open PySem PySem.Spec PyProof.Rows L2 DD
end Mi
namespace Mi
open PySem PySem.Spec PyProof.Rows L2 DD
end Mi
namespace Mi
open PySem PySem.Spec PyProof.Rows L2 DD
end Mi
namespace Mi
open PySem PySem.Spec PyProof.Rows L2 DD
end Mi
namespace Mi
open PySem PySem.Spec PyProof.Rows L2 DD
end Mi
namespace Mi
open PySem PySem.Spec PyProof.Rows L2 DD
end Mi
namespace Mi
open PySem PySem.Spec PyProof.Rows L2 DD
end Mi
namespace Mi
open PySem PySem.Spec PyProof.Rows L2 DD
end Mi
namespace Mi
open PySem PySem.Spec PyProof.Rows L2 DD
end Mi
namespace Mi
open PySem PySem.Spec PyProof.Rows L2 DD
end Mi
namespace Mi
open PySem PySem.Spec PyProof.Rows L2 DD
end Mi
namespace Mi
open PySem PySem.Spec PyProof.Rows L2 DD
end Mi
namespace Mi
open PySem PySem.Spec PyProof.Rows L2 DD
end Mi
namespace Mi
open PySem PySem.Spec PyProof.Rows L2 DD
end Mi
namespace Mi
open PySem PySem.Spec PyProof.Rows L2 DD
end Mi
namespace Mi
open PySem PySem.Spec PyProof.Rows L2 DD
end Mi
namespace Mi
open PySem PySem.Spec PyProof.Rows L2 DD
end Mi
namespace Mi
open PySem PySem.Spec PyProof.Rows L2 DD
end Mi
namespace Mi
open PySem PySem.Spec PyProof.Rows L2 DD
end Mi
namespace Mi
open PySem PySem.Spec PyProof.Rows L2 DD
end Mi
namespace Mi
open PySem PySem.Spec PyProof.Rows L2 DD
end Mi
namespace Mi
open PySem PySem.Spec PyProof.Rows L2 DD
end Mi
namespace Mi
open PySem PySem.Spec PyProof.Rows L2 DD
end Mi
namespace Mi
open PySem PySem.Spec PyProof.Rows L2 DD
end Mi
namespace Mi
open PySem PySem.Spec PyProof.Rows L2 DD
end Mi
namespace Mi
open PySem PySem.Spec PyProof.Rows L2 DD
end Mi
namespace Mi
open PySem PySem.Spec PyProof.Rows L2 DD
end Mi
namespace Mi
open PySem PySem.Spec PyProof.Rows L2 DD
end Mi
namespace Mi
open PySem PySem.Spec PyProof.Rows L2 DD
end Mi
namespace Mi
open PySem PySem.Spec PyProof.Rows L2 DD
end Mi
namespace Mi
open PySem PySem.Spec PyProof.Rows L2 DD
end Mi
namespace Mi
open PySem PySem.Spec PyProof.Rows L2 DD
end Mi
namespace Mi
open PySem PySem.Spec PyProof.Rows L2 DD
end Mi
namespace Mi
open PySem PySem.Spec PyProof.Rows L2 DD
end Mi
namespace Mi
open PySem PySem.Spec PyProof.Rows L2 DD
end Mi
namespace Mi
open PySem PySem.Spec PyProof.Rows L2 DD
end Mi
namespace Mi
open PySem PySem.Spec PyProof.Rows L2 DD
end Mi
namespace Mi
open PySem PySem.Spec PyProof.Rows L2 DD
end Mi
namespace Mi
open PySem PySem.Spec PyProof.Rows L2 DD
end Mi
namespace Mi
open PySem PySem.Spec PyProof.Rows L2 DD
end Mi
set_option maxHeartbeats 400000
namespace DD
open PySem PySem.Spec PyProof.Rows L2
end DD
set_option maxHeartbeats 4000000
namespace Mi
open PySem PySem.Spec PyProof.Rows L2 DD
end Mi
namespace Mi
open PySem PySem.Spec PyProof.Rows L2 DD
end Mi
namespace Mi
open PySem PySem.Spec PyProof.Rows L2 DD
end Mi
namespace Mi
open PySem PySem.Spec PyProof.Rows L2 DD
end Mi
namespace Mi
open PySem PySem.Spec PyProof.Rows L2 DD
end Mi
set_option maxHeartbeats 200000
namespace Mi
open PySem PySem.Spec PyProof.Rows L2 DD
end Mi
namespace Mi
open PySem PySem.Spec PyProof.Rows L2 DD
end Mi
namespace Mi
open PySem DD
end Mi
namespace Mi
open PySem DD
end Mi
namespace Mi
open PySem DD
end Mi
namespace Mi
open PySem DD
end Mi
namespace Mi
open PySem DD
end Mi
namespace Mi
open PySem DD
end Mi
namespace Mi
open PySem PySem.Spec PyProof.Rows L2 DD
end Mi
namespace Mi
open PySem DD
end Mi
namespace Mi
open PySem DD
end Mi
namespace Mi
open PySem DD
end Mi
namespace Mi
open PySem DD
end Mi
namespace Mi
open PySem DD
end Mi
namespace Mi
open PySem DD
end Mi
namespace Mi
open PySem DD
end Mi
namespace Mi
open PySem DD
end Mi
namespace Mi
open PySem DD
end Mi
namespace DD
open PySem PySem.Spec PyProof.Rows L2
end DD
namespace Mi
open PySem DD
end Mi
namespace Mi
open PySem DD
end Mi
namespace Mi
open PySem DD
end Mi
namespace Mi
open PySem DD
end Mi
namespace Mi
open PySem DD
end Mi
namespace Mi
open PySem DD
end Mi
namespace DD
open PySem PySem.Spec PyProof.Rows L2
end DD
namespace Mi
open PySem DD
end Mi
namespace Mi
open PySem DD
end Mi
namespace Mi
open PySem DD
end Mi
namespace Mi
open PySem DD
end Mi
namespace Mi
open PySem DD
end Mi
namespace Mi
open PySem DD
end Mi
namespace Mi
open PySem DD
end Mi
namespace Mi
open PySem DD
end Mi
namespace Mi
open PySem DD
end Mi
namespace Mi
open PySem DD
end Mi
namespace Mi
open PySem DD
end Mi
namespace Mi
open PySem DD
end Mi
namespace Mi
open PySem DD
end Mi
namespace Mi
open PySem DD
end Mi
namespace Mi
open PySem DD
end Mi
namespace Mi
open PySem DD
end Mi
namespace Mi
open PySem DD
end Mi
namespace Mi
open PySem DD
end Mi
namespace Mi
open PySem DD
end Mi
set_option maxHeartbeats 4000000
namespace Mi
open PySem DD
end Mi
set_option maxHeartbeats 200000
set_option maxHeartbeats 0
open PySem PySem.W PySem.Calls PyProof.Rows
end
set_option Elab.async false
set_option linter.all false
set_option maxRecDepth 100000
set_option maxHeartbeats 200000
namespace DD
open PySem L2
theorem FA.t {K : PySem.W.Frag} {F H : Hp} {a : Addr} {xs : List V} (e : FA F H) (h : SqT K F a xs) : SqT K H a xs := by
  rcases h with h | h
  · exact Or.inl (e.rd h)
  · exact Or.inr h
theorem Denb.w {wk : Bool} {K : PySem.W.Frag} {F : Hp} {d : D} {v : V} (h : Denb wk K F d v) : Denw K F d v := by
  cases wk with
  | true => exact h
  | false => exact .inl h
section
variable {K : PySem.W.Frag} {F : Hp}
theorem Dens.take : ∀ {ds : List D} {vs : List V} (n : Nat), Dens K F ds vs → Dens K F (ds.take n) (vs.take n)
  | _, _, 0, _ => rfl
  | [], vs, n + 1, h => by
    have h' : vs = [] := h
    subst h'
    exact rfl
  | d :: ds, vs, n + 1, ⟨x, xs, r, s, t⟩ => by
    subst r
    exact ⟨x, _, rfl, s, Dens.take n t⟩
theorem Dens.drop : ∀ {ds : List D} {vs : List V} (n : Nat), Dens K F ds vs → Dens K F (ds.drop n) (vs.drop n)
  | _, _, 0, h => h
  | [], vs, n + 1, h => by
    have h' : vs = [] := h
    subst h'
    exact rfl
  | d :: ds, vs, n + 1, ⟨x, xs, r, s, t⟩ => by
    subst r
    exact Dens.drop n t
end
section
variable {K : PySem.W.Frag} {F F' H H' : Hp}
theorem EnvAt.mk : ∀ {σ : L2.St} {env : DEnv} {fp : List Addr}, EnvAt K F H σ env fp → MkF K F
  | [], [], _, h => h.2
  | _ :: σ, none :: env, fp, h => EnvAt.mk (σ := σ) (env := env) (fp := fp) h
  | v :: σ, some o :: env, fp, ⟨x, f1, f2, r, s, h, t⟩ => EnvAt.mk t
  | [], _ :: _, _, h => h.elim
  | _ :: _, [], _, h => h.elim
theorem EnvAt.val {σ : L2.St} {env : DEnv} {fp : List Addr} {i : Nat} {x : D} (h : EnvAt K F H σ env fp) (e : env[i]? = some (some (.d x))) : ∃ v, σ[i]? = some (some v) ∧ Den K F x v := by
  obtain ⟨f0, fr, p, g, q⟩ := h.at_ i (List.getElem?_eq_some_iff.mp e).1
  obtain ⟨v, h1, h2⟩ := g _ e
  exact ⟨v, h1, h2.1⟩
end
section
variable {K : PySem.W.Frag} {F H F' H' : Hp} {σ : L2.St} {env : DEnv} {fp : List Addr}
theorem Rel.exk (R : Rel K F H σ env fp) : FHK K F H := ⟨R.ex, R.at_.mk⟩
theorem Rel.val {i : Nat} {x : D} (R : Rel K F H σ env fp) (e : env[i]? = some (some (.d x))) : ∃ v, σ[i]? = some (some v) ∧ Den K F x v := R.at_.val e
end
end DD
namespace DD
open PySem PySem.Spec PyProof.Rows L2
/-- a pair that is unpacked at once -/
structure PDw (X : Cx) (W : WX) (e : Expr) (t : TE) (m : DEnv → Rs D) : Prop where
  pe : PE X e t
  sn : Sn X.K W (Denw X.K) emp t m
abbrev relB (_ : Hp) (a b : Bool) : Prop := a = b
structure PD (X : Cx) (W : WX) (e : Expr) (t : TE) (m : DEnv → Rs D) : Prop where
  pe : PE X e t
  sn : Sn X.K W (Den X.K) emp t m
structure PDT (X : Cx) (W : WX) (e : Expr) (t : TT) (m : DEnv → Rs Bool) : Prop where
  pt : PT X e t
  sn : Sn X.K W relB emp t m
/-- within and, or: whatever its whole is -/
structure PDW (X : Cx) (W : WX) (e : Expr) (t : TT) (m : DEnv → Rs Bool) : Prop where
  pw : PW X e t
  sn : Sn X.K W relB emp t m
structure PDA (X : Cx) (W : WX) (es : List Expr) (t : TA) (m : DEnv → Rs (List D)) : Prop where
  pa : PA X es t
  sn : Sn X.K W (Dens X.K) emp t m
def mVar (i : Nat) : MD := fun env => match env[i]? with
  | some (some (.d x)) => .ok x env
  | _ => .fail
def mC (d : D) : MD := fun env => .ok d env
def mOp (f : D → D → Option D) (a b : MD) : MD := fun env => (a env).bind fun x e1 => (b e1).bind fun y e2 => ofO (f x y) e2
def mUn (f : D → Option D) (a : MD) : MD := fun env => (a env).bind fun x e1 => ofO (f x) e1
def mTest (a : MD) : MB := fun env => (a env).bind fun x e1 => match x with
  | .bl b => .ok b e1
  | _ => .fail
def mAnd (a b : MB) : MB := fun env => (a env).bind fun x e1 => if x = true then b e1 else .ok false e1
def mOr (a b : MB) : MB := fun env => (a env).bind fun x e1 => if x = true then .ok true e1 else b e1
def mNot (a : MB) : MB := fun env => (a env).bind fun x e1 => .ok (!x) e1
def mIf {α : Type} (c : MB) (a b : DEnv → Rs α) : DEnv → Rs α := fun env => (c env).bind fun x e1 => if x = true then a e1 else b e1
def mAndV (a b : MD) : MD := fun env => (a env).bind fun x e1 => match x with
  | .bl true => b e1
  | .bl false => .ok (.bl false) e1
  | _ => .fail
def mOrV (a b : MD) : MD := fun env => (a env).bind fun x e1 => match x with
  | .bl true => .ok (.bl true) e1
  | .bl false => b e1
  | _ => .fail
def mNotV (a : MD) : MD := fun env => (a env).bind fun x e1 => match x with
  | .bl b => .ok (.bl (!b)) e1
  | _ => .fail
def mStar (a : MD) (r : MA) : MA := fun env => (a env).bind fun x e1 => match x with
  | .tup ys => (r e1).bind fun xs e2 => .ok (ys ++ xs) e2
  | .lst ys => (r e1).bind fun xs e2 => .ok (ys ++ xs) e2
  | _ => .fail
def mTup (a : MA) : MD := fun env => (a env).bind fun xs e1 => if xs.length ≤ sizeLine then .ok (.tup xs) e1 else .fail
def mCB (f : List D → Option D) (a : MA) : MD := fun env => (a env).bind fun xs e1 => ofO (f xs) e1
def OpD (K : PySem.W.Frag) (r : R2) (f : D → D → Option D) : Prop :=
  ∀ (F H : Hp) (x y : D) (a b : V) (z : D), FH F H → Den K F x a → Den K F y b → f x y = some z → ∀ Q : VK, (∀ F' H' c, Gr F H F' H' → Den K F' z c → Q c H') → r a b H Q
def UnD (K : PySem.W.Frag) (r : V → Hp → VK → Prop) (f : D → Option D) : Prop :=
  ∀ (F H : Hp) (x : D) (a : V) (z : D), FH F H → Den K F x a → f x = some z → ∀ Q : VK, (∀ F' H' c, Gr F H F' H' → Den K F' z c → Q c H') → r a H Q
def CallD (K : PySem.W.Frag) (r : List V → Hp → VK → Prop) (f : List D → Option D) : Prop :=
  ∀ (F H : Hp) (xs : List D) (as : List V) (z : D), FH F H → Dens K F xs as → f xs = some z → ∀ Q : VK, (∀ F' H' c, Gr F H F' H' → Den K F' z c → Q c H') → r as H Q
theorem out_ofO {α β : Type} {K : PySem.W.Frag} {W : WX} {rel : Hp → α → β → Prop} {F H : Hp} {σ : L2.St} {env : DEnv} {fp : List Addr} {Q : β → Hp → Prop} {a : Option α} (R : Rel K F H σ env fp) (h : Out K W rel F H σ fp Q (ofO a env)) :
    ∃ c, a = some c ∧ ∀ F' H' b, Gr F H F' H' → rel F' c b → Q b H' := by
  cases a with
  | none => exact h.elim
  | some c => exact ⟨c, rfl, fun F' H' b g r => h F' H' fp b g.po (R.grow g) r⟩
theorem sn_op {K : PySem.W.Frag} {W : WX} {ta tb : TE} {ma mb : MD} {r : R2} {f : D → D → Option D} (ha : Sn K W (Den K) emp ta ma) (hb : Sn K W (Den K) emp tb mb) (hf : OpD K r f) : Sn K W (Den K) emp (tOp r ta tb) (mOp f ma mb) := by
  intro F H σ env fp Q _ R h
  refine ha.go ex_emp R h fun F1 H1 fp1 env1 x v P1 R1 d1 h1 => ?_
  refine hb.go ex_emp R1 h1 fun F2 H2 fp2 env2 y u P2 R2 d2 h2 => ?_
  obtain ⟨c, e, k⟩ := out_ofO R2 h2
  exact hf F2 H2 x y v u c R2.ex (Den.mono P2.f x v d1) d2 e Q k
theorem sn_un {K : PySem.W.Frag} {W : WX} {ta : TE} {ma : MD} {r : V → Hp → VK → Prop} {f : D → Option D} (ha : Sn K W (Den K) emp ta ma) (hf : UnD K r f) : Sn K W (Den K) emp (tUn r ta) (mUn f ma) := by
  intro F H σ env fp Q _ R h
  refine ha.go ex_emp R h fun F1 H1 fp1 env1 x v P1 R1 d1 h1 => ?_
  obtain ⟨c, e, k⟩ := out_ofO R1 h1
  exact hf F1 H1 x v c R1.ex d1 e Q k
theorem sn_cb {K : PySem.W.Frag} {W : WX} {t : TA} {m : MA} {r : List V → Hp → VK → Prop} {f : List D → Option D} (ha : Sn K W (Dens K) emp t m) (hf : CallD K r f) : Sn K W (Den K) emp (fun σ H Q => t σ H fun vs H1 => r vs H1 Q) (mCB f m) := by
  intro F H σ env fp Q _ R h
  refine ha.go ex_emp R h fun F1 H1 fp1 env1 x v P1 R1 d1 h1 => ?_
  obtain ⟨c, e, k⟩ := out_ofO R1 h1
  exact hf F1 H1 x v c R1.ex d1 e Q k
theorem sn_cons {K : PySem.W.Frag} {W : WX} {ta : TE} {ma : MD} {t : TA} {m : MA} (ha : Sn K W (Den K) emp ta ma) (hr : Sn K W (Dens K) emp t m) : Sn K W (Dens K) emp (tCons ta t) (mCons ma m) := by
  intro F H σ env fp Q _ R h
  refine ha.go ex_emp R h fun F1 H1 fp1 env1 x v P1 R1 d1 h1 => ?_
  refine hr.go ex_emp R1 h1 fun F2 H2 fp2 env2 y u P2 R2 d2 h2 => ?_
  exact h2 F2 H2 fp2 (v :: u) Po.refl R2 (dens_cons (Den.mono P2.f x v d1) d2)
section
variable {X : Cx} {W : WX} {pos : Pos}
theorem sn_var {K : PySem.W.Frag} {W : WX} {i : Nat} : Sn K W (Den K) emp (tVar i) (mVar i) := by
  intro F H σ env fp Q _ R h
  unfold mVar at h
  split at h
  · rename_i x e
    obtain ⟨v, h1, h2⟩ := R.val e
    exact ⟨v, h1, h F H fp v Po.refl R h2⟩
  · exact h.elim
theorem dv (i : Nat) {x : Str} {pos : Pos} (hN : X.N[i]? = some x := by rfl) (hv : Vis X.env.scope x := by first | exact Or.inl rfl | exact Or.inr (Or.inl rfl) | exact Or.inr (Or.inr rfl)) (hd : (x == ("__debug__" : Str)) = false := by decide)
    (hcd : (x == ("__classdict__" : Str)) = false := by decide) : PD X W (.Name x pos) (tVar i) (mVar i) := ⟨pe_var hN hv hd hcd, sn_var⟩
theorem sn_c {K : PySem.W.Frag} {W : WX} {d : D} {v : V} (hd : Den K emp d v) : Sn K W (Den K) emp (tC v) (mC d) := fun F H σ env fp Q _ R h => h F H fp v Po.refl R (Den.mono ex_emp d v hd)
theorem pd_int {i : Int} {j pos} : PD X W (.Constant (.int i) j pos) (tC (.int i)) (mC (.int i)) := ⟨pe_int, sn_c rfl⟩
theorem pd_bl {b j pos} : PD X W (.Constant (.bool b) j pos) (tC (.bl b)) (mC (.bl b)) := ⟨pe_bl, sn_c rfl⟩
theorem pd_non {j pos} : PD X W (.Constant .none j pos) (tC .non) (mC .non) := ⟨pe_non, sn_c rfl⟩
theorem pd_str {x j pos} : PD X W (.Constant (.str x) j pos) (tC (.str x)) (mC (.str x)) := ⟨pe_str, sn_c rfl⟩
/-- a module's name that stands for an int, a text -/
theorem pd_globi {x : Str} {i : Int} {t : Tok} (hg : Gl X x) (hm : X.mg x = some (.int i t)) (hdb : (x == ("__debug__" : Str)) = false := by decide) : PD X W (.Name x pos) (tC (.int i)) (mC (.int i)) := ⟨pe_glob hg hm ⟨_, rfl⟩ hdb, sn_c rfl⟩
theorem pd_globs {x s : Str} {t : Tok} (hg : Gl X x) (hm : X.mg x = some (.str s t)) (hdb : (x == ("__debug__" : Str)) = false := by decide) : PD X W (.Name x pos) (tC (.str s)) (mC (.str s)) := ⟨pe_glob hg hm ⟨_, rfl⟩ hdb, sn_c rfl⟩
variable {a b c e : Expr} {ta tb tc te : TE} {ma mb mc me : MD} {es rest : List Expr} {tA tB' : TT} {mA mB' : MB} {t : TA} {m : MA}
theorem pd_op {op : Operator} {r : R2} {f : D → D → Option D} (ho : OpR X (binaryOp op) r) (hf : OpD X.K r f) (ha : PD X W a ta ma) (hb : PD X W b tb mb) : PD X W (.BinOp a op b pos) (tOp r ta tb) (mOp f ma mb) := ⟨pe_op ho ha.pe hb.pe, sn_op ha.sn hb.sn hf⟩
theorem pd_un {op : UnaryOp} {r : V → Hp → VK → Prop} {f : D → Option D} (ho : UnR X (unaryOp op) r) (hf : UnD X.K r f) (ha : PD X W a ta ma) : PD X W (.UnaryOp op a pos) (tUn r ta) (mUn f ma) := ⟨pe_un ho ha.pe, sn_un ha.sn hf⟩
theorem sn_test {K : PySem.W.Frag} {W : WX} {ta : TE} {ma : MD} (ha : Sn K W (Den K) emp ta ma) : Sn K W relB emp (fun σ H Q => ta σ H fun x H1 => ∃ c, x = .bl c ∧ Q c H1) (mTest ma) := by
  intro F H σ env fp Q _ R h
  refine ha.go ex_emp R h fun F1 H1 fp1 env1 x v P1 R1 d1 h1 => ?_
  cases x with
  | bl b => exact ⟨b, d1, h1 F1 H1 fp1 b Po.refl R1 rfl⟩
  | _ => exact h1.elim
theorem pdt_cmp {op : CmpOp} {r : R2} {f : D → D → Option D} (ho : OpR X (compareOp op) r) (hf : OpD X.K r f) (ha : PD X W a ta ma) (hb : PD X W b tb mb) (hm : behindInMarks op b = false := by first | exact nomark _ | rfl) : PDT X W (.Compare a [op] [b] pos) (tTest (tOp r ta tb)) (mTest (mOp f ma mb)) := ⟨pt_cmpR ho ha.pe hb.pe hm, sn_test (sn_op ha.sn hb.sn hf)⟩
theorem pdt_val (h : PD X W e te me) (he : ∀ whole, isTrue e X.env whole = (do let v ← whole; standAt e.pos; holding [v] (truthy v)) := by intro _; rfl) : PDT X W e (tB te) (mTest me) := ⟨pt_val h.pe he, sn_test h.sn⟩
theorem sn_or {K : PySem.W.Frag} {W : WX} {tA tB' : TT} {mA mB' : MB} (ha : Sn K W relB emp tA mA) (hb : Sn K W relB emp tB' mB') : Sn K W relB emp (tOr tA tB') (mOr mA mB') := by
  intro F H σ env fp Q _ R h
  refine ha.go ex_emp R h fun F1 H1 fp1 env1 x v P1 R1 d1 h1 => ?_
  have e' : x = v := d1
  subst e'
  cases x with
  | false => exact hb F1 H1 σ env1 fp1 Q ex_emp R1 h1
  | true => exact h1 F1 H1 fp1 true Po.refl R1 rfl
theorem sn_if {α β : Type} {K : PySem.W.Frag} {W : WX} {rel : Hp → α → β → Prop} {tA : TT} {mA : MB} {ta tb : L2.St → Hp → (β → Hp → Prop) → Prop} {ma mb : DEnv → Rs α} (hc : Sn K W relB emp tA mA) (ha : Sn K W rel emp ta ma) (hb : Sn K W rel emp tb mb) :
    Sn K W rel emp (fun σ H Q => tA σ H fun c H1 => if c = true then ta σ H1 Q else tb σ H1 Q) (mIf mA ma mb) := by
  intro F H σ env fp Q _ R h
  refine hc.go ex_emp R h fun F1 H1 fp1 env1 x v P1 R1 d1 h1 => ?_
  have e' : x = v := d1
  subst e'
  cases x with
  | true => exact ha F1 H1 σ env1 fp1 Q ex_emp R1 h1
  | false => exact hb F1 H1 σ env1 fp1 Q ex_emp R1 h1
theorem pdw_or1 (ha : PDT X W a tA mA) : PDW X W (.BoolOp .Or [a] pos) tA mA := ⟨pw_or1 ha.pt, ha.sn⟩
theorem pdw_or (ha : PDT X W a tA mA) (hb : PDW X W (.BoolOp .Or (b :: rest) pos) tB' mB') : PDW X W (.BoolOp .Or (a :: b :: rest) pos) (tOr tA tB') (mOr mA mB') := ⟨pw_or ha.pt hb.pw, sn_or ha.sn hb.sn⟩
theorem pdt_w (h : PDW X W e tA mA) : PDT X W e tA mA := ⟨h.pw.pt, h.sn⟩
theorem pd_if (hc : PDT X W c tA mA) (ha : PD X W a ta ma) (hb : PD X W b tb mb) : PD X W (.IfExp c a b pos) (tIf tA ta tb) (mIf mA ma mb) := ⟨pe_ifExp hc.pt ha.pe hb.pe, sn_if hc.sn ha.sn hb.sn⟩
theorem pda_nil : PDA X W [] tNil mNil := ⟨pa_nil, sn_nil⟩
theorem pda_cons (ha : PD X W e te me) (hr : PDA X W es t m) (hs : starEach (e :: es) X.env = (false, eval e X.env) :: starEach es X.env := by rfl) : PDA X W (e :: es) (tCons te t) (mCons me m) := ⟨pa_cons ha.pe hr.pa hs, sn_cons ha.sn hr.sn⟩
theorem gr_tup {K : PySem.W.Frag} {F H : Hp} {p : Addr} {o : Obj} {xs : List V} {ds : List D} (e : FH F H) (hp : H p = none) (ho : o.dict = none) (h : Dens K F ds xs) : Gr F H (upd F p (.frz o (.tup xs))) (upd H p (.frz o (.tup xs))) ∧ Den K (upd F p (.frz o (.tup xs))) (.tup ds) (.ref p) := by
  have g : Gr F H (upd F p (.frz o (.tup xs))) (upd H p (.frz o (.tup xs))) := Gr.new e hp
  exact ⟨g, p, o, xs, rfl, upd_same, ho, Dens.mono g.f ds xs h⟩
/-- a written tuple, told as the object that it is -/
def tTupE (t : TA) : TE := fun σ H Q => t σ H fun xs H1 => xs.length ≤ sizeLine ∧ ∀ p o, H1 p = none → o.dict = none → Q (.ref p) (upd H1 p (.frz o (.tup xs)))
theorem pe_tupE {x1} (h : PA X es t) : PE X (.Tuple es x1 pos) (tTupE t) := by
  constructor
  intro pins s σ H Q I hq
  refine wpAny_Tuple_spliced (thn (h.run pos pins s σ H _ I hq) ?_)
  rintro us s1 ⟨xs, H1, I1, r, z, q⟩
  refine ⟨r.length ▸ z, ?_⟩
  have hx := Heap.get?_push_size s1.heap (o := { cls := .type "tuple", data := .seq us.toArray }) rfl
  have J := I1.laid (t' := s1.toks) (o := .frz { cls := .type "tuple", data := .seq us.toArray } (.tup xs)) (fun b u e => Heap.get?_push_of_some _ e) (Nat.le_refl _) ⟨hx, z, us, r, ⟨_, hx, rfl, _, rfl⟩⟩
  exact ⟨.ref _, _, J, rfl, q _ _ (I1.hok.fresh (Nat.le_refl _)) rfl⟩
theorem sn_tup {K : PySem.W.Frag} {W : WX} {t : TA} {m : MA} (ht : Sn K W (Dens K) emp t m) : Sn K W (Den K) emp (tTupE t) (mTup m) := by
  intro F H σ env fp Q _ R h
  refine ht.go ex_emp R h fun F1 H1 fp1 env1 ds xs P1 R1 d1 h1 => ?_
  by_cases hz : ds.length ≤ sizeLine
  · rw [if_pos hz] at h1
    refine ⟨by rw [← Dens.length d1]; exact hz, fun p o hp ho => ?_⟩
    obtain ⟨g, d⟩ := gr_tup R1.ex hp ho d1
    exact h1 _ _ fp1 _ g.po (R1.grow g) d
  · rw [if_neg hz] at h1
    exact h1.elim
theorem sn_lst {K : PySem.W.Frag} {W : WX} {t : TA} {m : MA} (ht : Sn K W (Dens K) emp t m) : Sn K W (Den K) emp (tLst t) (mLst m) := by
  intro F H σ env fp Q _ R h
  refine ht.go ex_emp R h fun F1 H1 fp1 env1 ds xs P1 R1 d1 h1 => ?_
  by_cases hz : ds.length ≤ sizeLine
  · rw [if_pos hz] at h1
    refine ⟨by rw [← Dens.length d1]; exact hz, fun p hp => ?_⟩
    obtain ⟨g, d⟩ := gr_lst R1.ex hp d1
    exact h1 _ _ fp1 _ g.po (R1.grow g) d
  · rw [if_neg hz] at h1
    exact h1.elim
theorem pd_tup {x1} (h : PDA X W es t m) : PD X W (.Tuple es x1 pos) (tTupE t) (mTup m) := ⟨pe_tupE h.pa, sn_tup h.sn⟩
theorem pd_lst (h : PDA X W es t m) : PD X W (.List es pos) (tLst t) (mLst m) := ⟨pe_lst h.pa, sn_lst h.sn⟩
theorem pd_callB {id : String} {x : Str} {p : Pos} {r : List V → Hp → VK → Prop} {f : List D → Option D} (hc : CallR X (.builtin id) r) (hf : CallD X.K r f) (hg : Gl X x) (hm : X.mg x = none) (hv : bootBuiltins x = some (.builtin id)) (ha : PDA X W (e :: es) t m) (hn : x ≠ "__name__" := by decide) (hdb : (x == ("__debug__" : Str)) = false := by decide)
    (he : starEach (e :: es) X.env = (false, eval e X.env) :: starEach es X.env := by rfl) (hpl : (backTo pos (starEach es X.env)).any (·.1) = false := by rfl) : PD X W (.Call (.Name x p) (e :: es) [] pos) (tCB r t) (mCB f m) := ⟨pe_callB hc hg hm hv ha.pa hn hdb he hpl, sn_cb ha.sn hf⟩
theorem pd_callTy {T : String} {x : Str} {p : Pos} {r : List V → Hp → VK → Prop} {f : List D → Option D} (hc : CallR X (.type T) r) (hf : CallD X.K r f) (hg : Gl X x) (hm : X.mg x = none) (hv : bootBuiltins x = some (.type T)) (ha : PDA X W (e :: es) t m) (hn : x ≠ "__name__" := by decide) (hdb : (x == ("__debug__" : Str)) = false := by decide)
    (he : starEach (e :: es) X.env = (false, eval e X.env) :: starEach es X.env := by rfl) (hpl : (backTo pos (starEach es X.env)).any (·.1) = false := by rfl) : PD X W (.Call (.Name x p) (e :: es) [] pos) (tCB r t) (mCB f m) := ⟨pe_callTy hc hg hm hv ha.pa hn hdb he hpl, sn_cb ha.sn hf⟩
/-- a[i] -/
theorem pd_ix {i : Expr} {ti : TE} {mi : MD} {r : R2} {f : D → D → Option D} (ho : IxR X r) (hf : OpD X.K r f) (ha : PD X W a ta ma) (hi : PD X W i ti mi) (hs : PlainIx i := by exact fun _ _ => rfl) : PD X W (.Subscript a i pos) (tOp r ta ti) (mOp f ma mi) := ⟨pe_ix ho ha.pe hi.pe hs, sn_op ha.sn hi.sn hf⟩
/-- a < b < c -/
def mChain (f g : D → D → Option D) (a b c : MD) : MD := fun env => (a env).bind fun x e1 => (b e1).bind fun y e2 => match f x y with
  | some (.bl true) => (c e2).bind fun z e3 => ofO (g y z) e3
  | some (.bl false) => .ok (.bl false) e2
  | _ => .fail
end
end DD
namespace DD
open PySem L2
section
variable {K : PySem.W.Frag} {F F' H H' : Hp} {σ : L2.St} {env : DEnv} {fp : List Addr}
/-- a slot forgotten -/
theorem Rel.forget {i : Nat} {x : Option V} (R : Rel K F H σ env fp) (hi : i < env.length) : ∃ fp', Rel K F H (σ.set i x) (env.set i none) fp' ∧ ∀ a ∈ fp', a ∈ fp := by
  obtain ⟨f0, fr, p, g, q⟩ := R.at_.at_ i hi
  have nd : (f0 ++ fr).Nodup := p.nodup_iff.mp R.nd
  have sub : ∀ a ∈ fr, a ∈ fp := fun a ha => p.symm.subset (List.mem_append_right _ ha)
  exact ⟨fr, ⟨R.ex, (q F H (Ex.refl _) fun _ _ => rfl).1 x, (List.nodup_append.mp nd).2.1, fun a ha => R.out a (sub a ha)⟩, sub⟩
theorem Po.sub {F H : Hp} {fp fp' : List Addr} (h : ∀ a ∈ fp', a ∈ fp) : Po F H fp F H fp' := ⟨Ex.refl F, fun _ _ h _ => .inl h, fun a ha => .inl (h a ha), fun _ _ h _ _ => h⟩
theorem Lk.none {fp : List Addr} {H H' : Hp} (l : Lk fp H H') {a : Addr} (h : H a = none) : H' a = none := by
  rw [l.same a (.inr (by rw [h]; rfl)), h]
theorem RelO.fz {o : O} {v : V} {f1 f2 : List Addr} (R : RelO K F H σ env f1 f2 o v) (l : Lk f1 H H') : Rel K (frzF F H' f1) H' σ env f2 ∧ Den K (frzF F H' f1) (fz o) v ∧ Po F H (f1 ++ f2) (frzF F H' f1) H' f2 := by
  have e : Ex F (frzF F H' f1) := frzF_ex fun a ha => R.out a (List.mem_append_left _ ha)
  have nd := List.nodup_append.mp R.nd
  have ne : ∀ a ∈ f2, a ∉ f1 := fun a ha hb => nd.2.2 a hb a ha rfl
  refine ⟨⟨frzF_fh R.ex l (fun a ha => R.out a (List.mem_append_left _ ha)) (fun a ha => OwnAt.dom o v f1 R.own a ha), R.at_.mono e fun a ha => l.same a (.inl (ne a ha)), nd.2.1, fun a ha => ?_⟩, OwnAt.fz e l o v f1 (fun a ha => ⟨ha, frzF_in ha⟩) R.own, ⟨e, fun a o' h n => by rw [l.same a (.inl fun z => n (List.mem_append_left _ z))]; exact .inl h, fun a ha => .inl (List.mem_append_right _ ha), fun a o' h _ hn => ?_⟩⟩
  · rw [frzF_ne (ne a ha)]
    exact R.out a (List.mem_append_right _ ha)
  · rw [frzF_ne fun z => hn (List.mem_append_left _ z)]
    exact h
end
theorem Lk.skip {a : Addr} {fp : List Addr} {H H' : Hp} (l : Lk fp H H') (h : isDc (H a) = false) : Lk (a :: fp) H H' := ⟨fun b hb => l.same b (hb.imp (fun n z => n (List.mem_cons_of_mem _ z)) id), fun b hb u hu hd => by
  rcases List.mem_cons.mp hb with z | z
  · rw [z, h] at hd
    cases hd
  · exact l.frz b z u hu hd⟩
theorem isDc_mut {u : HO} (h : isDc (some u) = true) : Mut (some u) := by
  cases u <;> first | trivial | cases h
theorem inv_lk {X : Cx} {pins : List (Addr × Obj)} {σ : L2.St} {s : Shared} : ∀ {fp : List Addr} {H : Hp}, fp.Nodup → Inv X pins σ H s → ∃ H', Lk fp H H' ∧ Inv X pins σ H' s
  | [], H, _, I => ⟨H, Lk.nil, I⟩
  | a :: fp, H, nd, I => by
    obtain ⟨n, nd⟩ := List.nodup_cons.mp nd
    by_cases hd : isDc (H a) = true
    · cases ha : H a with
      | none =>
        rw [ha] at hd
        cases hd
      | some u =>
        obtain ⟨od, I2⟩ := L2.Inv.lock I ha (isDc_mut (by rw [← ha]; exact hd))
        obtain ⟨H', l, I3⟩ := inv_lk nd I2
        exact ⟨H', l.cons n ha hd, I3⟩
    · obtain ⟨H', l, I3⟩ := inv_lk nd I
      exact ⟨H', l.skip (by simpa using hd), I3⟩
/-- e, its dicts locked behind it -/
def tFix (t : TE) : TE := fun σ H Q => t σ H fun v H1 => ∃ fp : List Addr, fp.Nodup ∧ ∀ H2, Lk fp H1 H2 → Q v H2
theorem pe_fix {X : Cx} {e : Expr} {t : TE} (h : PE X e t) : PE X e (tFix t) := by
  refine ⟨fun pins s σ H Q I hw => ?_⟩
  refine thn (h.run pins s σ H _ I hw) fun u s1 ⟨v, H1, I1, r, fp, nd, q⟩ => ?_
  obtain ⟨H2, l, I2⟩ := inv_lk nd I1
  exact ⟨v, H2, I2, r, q H2 l⟩
def tFixS (t : TS) : TS := fun D σ H => ∃ fp : List Addr, fp.Nodup ∧ ∀ H2, Lk fp H H2 → t D σ H2
theorem ps_fix {X : Cx} {st : Stmt} {t : TS} (h : PS X st t) : PS X st (tFixS t) := by
  refine ⟨fun pins s σ H D I hw => ?_⟩
  obtain ⟨fp, nd, q⟩ := hw
  obtain ⟨H2, l, I2⟩ := inv_lk nd I
  exact h.run pins s σ H2 D I2 (q H2 l)
mutual
/-- a tree without dicts -/
def noD : O → Bool
  | .d _ => true
  | .lst os => noDs os
  | .ins _ _ os => noDs os
  | _ => false
def noDs : List O → Bool
  | [] => true
  | o :: os => noD o && noDs os
end
section
variable {K : PySem.W.Frag} {F F' H H' : Hp} {σ : L2.St} {env : DEnv} {fp : List Addr}
mutual
theorem OwnAt.nodc : ∀ (o : O) (v : V) (fp : List Addr), noD o = true → OwnAt K F H o v fp → ∀ a ∈ fp, isDc (H a) = false
  | .d x, v, fp, _, ⟨_, r⟩, a, ha => by rw [r] at ha; cases ha
  | .lst os, v, fp, n, ⟨a, vs, fp', r, s, h, t⟩, b, hb => by
    rw [s] at hb
    rcases List.mem_cons.mp hb with e | hb
    · rw [e, h]; rfl
    · exact OwnsAt.nodc os vs fp' n t b hb
  | .ins C ns os, v, fp, n, ⟨a, dx, vs, fp', r, s, h, l, t⟩, b, hb => by
    rw [s] at hb
    rcases List.mem_cons.mp hb with e | hb
    · rw [e, h]; rfl
    · exact OwnsAt.nodc os vs fp' n t b hb
  | .dct _ _, _, _, n, _, _, _ => by cases n
  | .dtt _ _, _, _, n, _, _, _ => by cases n
theorem OwnsAt.nodc : ∀ (os : List O) (vs : List V) (fp : List Addr), noDs os = true → OwnsAt K F H os vs fp → ∀ a ∈ fp, isDc (H a) = false
  | [], vs, fp, _, ⟨_, h⟩, a, ha => by rw [h] at ha; cases ha
  | o :: os, vs, fp, n, ⟨x, xs, f1, f2, r, s, h, t⟩, a, ha => by
    have n' : noD o = true ∧ noDs os = true := by simpa [noDs] using n
    rw [s] at ha
    rcases List.mem_append.mp ha with ha | ha
    · exact OwnAt.nodc o x f1 n'.1 h a ha
    · exact OwnsAt.nodc os xs f2 n'.2 t a ha
end
theorem noDs_map : ∀ ds : List D, noDs (ds.map O.d) = true
  | [] => rfl
  | d :: ds => by
    show (true && noDs (ds.map O.d)) = true
    rw [noDs_map ds]
    rfl
end
def OutO (K : PySem.W.Frag) (W : WX) (F H : Hp) (σ : L2.St) (fp : List Addr) (Q : VK) : Rs O → Prop
  | .ok o env => ∀ F' H' f1 f2 v, Po F H fp F' H' (f1 ++ f2) → RelO K F' H' σ env f1 f2 o v → Q v H'
  | .exc x env => ∀ F' H' fp' c dd, Po F H fp F' H' fp' → Rel K F' H' σ env fp' → ExAt K F' x c dd → W c dd σ H'
  | .fail => False
theorem OutO.step {K : PySem.W.Frag} {W : WX} {F H F1 H1 : Hp} {σ : L2.St} {fp fp1 : List Addr} {Q : VK} {r : Rs O} (P : Po F H fp F1 H1 fp1) (h : OutO K W F H σ fp Q r) : OutO K W F1 H1 σ fp1 Q r := by
  cases r with
  | ok a env => exact fun F' H' f1 f2 b P' => h F' H' f1 f2 b (P.trans P')
  | exc x env => exact fun F' H' fp' c dd P' => h F' H' fp' c dd (P.trans P')
  | fail => exact h
def SnO (K : PySem.W.Frag) (W : WX) (t : TE) (m : DEnv → Rs O) : Prop :=
  ∀ (F H : Hp) (σ : L2.St) (env : DEnv) (fp : List Addr) (Q : VK), Rel K F H σ env fp → OutO K W F H σ fp Q (m env) → t σ H Q
structure PDO (X : Cx) (W : WX) (e : Expr) (t : TE) (m : DEnv → Rs O) : Prop where
  pe : PE X e t
  sn : SnO X.K W t m
abbrev MO := DEnv → Rs O
/-- frozen at once -/
def mFz (m : MO) : MD := fun env => (m env).bind fun o e => .ok (fz o) e
theorem pd_fz {X : Cx} {W : WX} {e : Expr} {t : TE} {m : MO} (h : PDO X W e t m) : PD X W e (tFix t) (mFz m) := by
  refine ⟨pe_fix h.pe, fun F H σ env fp Q _ R hq => h.sn F H σ env fp _ R ?_⟩
  unfold mFz at hq
  generalize m env = r at hq
  cases r with
  | ok o e1 =>
    intro F' H' f1 f2 v P R'
    refine ⟨f1, (List.nodup_append.mp R'.nd).1, fun H2 l => ?_⟩
    obtain ⟨a, b, c⟩ := R'.fz l
    exact hq _ _ f2 v (P.trans c) a b
  | exc x e1 => exact hq
  | fail => exact hq
/-- the same of trees without dicts -/
theorem pd_fz0 {X : Cx} {W : WX} {e : Expr} {t : TE} {m : MO} (h : PDO X W e t m) (hn : ∀ env o e, m env = .ok o e → noD o = true) : PD X W e t (mFz m) := by
  refine ⟨h.pe, fun F H σ env fp Q _ R hq => h.sn F H σ env fp _ R ?_⟩
  unfold mFz at hq
  have hn' := hn env
  generalize m env = r at hq hn'
  cases r with
  | ok o e1 =>
    intro F' H' f1 f2 v P R'
    obtain ⟨a, b, c⟩ := R'.fz (Lk.refl (OwnAt.nodc o v f1 (hn' o e1 rfl) R'.own))
    exact hq _ _ f2 v (P.trans c) a b
  | exc x e1 => exact hq
  | fail => exact hq
abbrev MS := DEnv → RS
def OutS (K : PySem.W.Frag) (W : WX) (fx : List Nat) (F H : Hp) (σ : L2.St) (fp : List Addr) (D' : Ends) : RS → Prop
  | .nx env => ∀ F' H' σ' fp', Po F H fp F' H' fp' → Fx fx σ σ' → Rel K F' H' σ' env fp' → D'.nx σ' H'
  | .rt d env => ∀ F' H' σ' fp' v, Po F H fp F' H' fp' → Fx fx σ σ' → Rel K F' H' σ' env fp' → Den K F' d v → D'.rt v H'
  | .ro o env => ∀ F' H' σ' f1 f2 v, Po F H fp F' H' (f1 ++ f2) → Fx fx σ σ' → RelO K F' H' σ' env f1 f2 o v → D'.rt v H'
  | .bk env => ∀ F' H' σ' fp', Po F H fp F' H' fp' → Fx fx σ σ' → Rel K F' H' σ' env fp' → D'.bk σ' H'
  | .ct env => ∀ F' H' σ' fp', Po F H fp F' H' fp' → Fx fx σ σ' → Rel K F' H' σ' env fp' → D'.ct σ' H'
  | .exc x env => ∀ F' H' σ' fp' c dd, Po F H fp F' H' fp' → Fx fx σ σ' → Rel K F' H' σ' env fp' → ExAt K F' x c dd → W c dd σ' H'
  | .fail => False
theorem OutS.step {K : PySem.W.Frag} {W : WX} {fx : List Nat} {F H F1 H1 : Hp} {σ σ1 : L2.St} {fp fp1 : List Addr} {D' : Ends} {r : RS} (P : Po F H fp F1 H1 fp1) (x : Fx fx σ σ1) (h : OutS K W fx F H σ fp D' r) : OutS K W fx F1 H1 σ1 fp1 D' r := by
  cases r with
  | nx env => exact fun F' H' σ' fp' P' x' => h F' H' σ' fp' (P.trans P') (x.trans x')
  | rt d env => exact fun F' H' σ' fp' v P' x' => h F' H' σ' fp' v (P.trans P') (x.trans x')
  | ro o env => exact fun F' H' σ' f1 f2 v P' x' => h F' H' σ' f1 f2 v (P.trans P') (x.trans x')
  | bk env => exact fun F' H' σ' fp' P' x' => h F' H' σ' fp' (P.trans P') (x.trans x')
  | ct env => exact fun F' H' σ' fp' P' x' => h F' H' σ' fp' (P.trans P') (x.trans x')
  | exc y env => exact fun F' H' σ' fp' c dd P' x' => h F' H' σ' fp' c dd (P.trans P') (x.trans x')
  | fail => exact h
def SnS (K : PySem.W.Frag) (W : WX) (fx : List Nat) (t : TS) (m : MS) : Prop :=
  ∀ (F H : Hp) (σ : L2.St) (env : DEnv) (fp : List Addr) (D' : Ends), Rel K F H σ env fp → OutS K W fx F H σ fp D' (m env) → t D' σ H
structure PDS (X : Cx) (W : WX) (fx : List Nat) (st : Stmt) (t : TS) (m : MS) : Prop where
  ps : PS X st t
  sn : SnS X.K W fx t m
structure PDB (X : Cx) (W : WX) (fx : List Nat) (st : List Stmt) (t : TS) (m : MS) : Prop where
  ps : PSs X st t
  sn : SnS X.K W fx t m
theorem Sn.goS {α β : Type} {K : PySem.W.Frag} {W : WX} {rel1 : Hp → α → β → Prop} {F0 : Hp} {t1 : L2.St → Hp → (β → Hp → Prop) → Prop} {m1 : DEnv → Rs α} (h1 : Sn K W rel1 F0 t1 m1)
    {F H : Hp} {σ : L2.St} {env : DEnv} {fp : List Addr} {fx : List Nat} {D' : Ends} {mk : α → DEnv → RS} {Q : β → Hp → Prop} (e : Ex F0 F) (R : Rel K F H σ env fp) (h : OutS K W fx F H σ fp D' ((m1 env).on mk))
    (hk : ∀ F' H' fp' env' a b, Po F H fp F' H' fp' → Rel K F' H' σ env' fp' → rel1 F' a b → OutS K W fx F' H' σ fp' D' (mk a env') → Q b H') : t1 σ H Q := by
  refine h1 F H σ env fp _ e R ?_
  generalize m1 env = r at h
  cases r with
  | ok a env1 => exact fun F' H' fp' b P R' r' => hk F' H' fp' env1 a b P R' r' (OutS.step P Fx.refl h)
  | exc x env1 => exact fun F' H' fp' c dd P R' z => h F' H' σ fp' c dd P Fx.refl R' z
  | fail => exact h
theorem SnO.goS {K : PySem.W.Frag} {W : WX} {t1 : TE} {m1 : MO} (h1 : SnO K W t1 m1)
    {F H : Hp} {σ : L2.St} {env : DEnv} {fp : List Addr} {fx : List Nat} {D' : Ends} {mk : O → DEnv → RS} {Q : VK} (R : Rel K F H σ env fp) (h : OutS K W fx F H σ fp D' ((m1 env).on mk))
    (hk : ∀ F' H' f1 f2 env' o v, Po F H fp F' H' (f1 ++ f2) → RelO K F' H' σ env' f1 f2 o v → OutS K W fx F' H' σ (f1 ++ f2) D' (mk o env') → Q v H') : t1 σ H Q := by
  refine h1 F H σ env fp _ R ?_
  generalize m1 env = r at h
  cases r with
  | ok a env1 => exact fun F' H' f1 f2 b P R' => hk F' H' f1 f2 env1 a b P R' (OutS.step P Fx.refl h)
  | exc x env1 => exact fun F' H' fp' c dd P R' z => h F' H' σ fp' c dd P Fx.refl R' z
  | fail => exact h
def mSkip : MS := fun env => .nx env
def mSeq (a b : MS) : MS := fun env => match a env with
  | .nx e => b e
  | r => r
def mSet (i : Nat) (a : MD) : MS := fun env => (a env).on fun d e => .nx (e.set i (some (.d d)))
def mSetO (i : Nat) (a : MO) : MS := fun env => (a env).on fun o e => if i < e.length then .nx (e.set i (some o)) else .fail
def mRet (a : MD) : MS := fun env => (a env).on fun d e => .rt d e
def mRetO (a : MO) : MS := fun env => (a env).on fun o e => .ro o e
def mDrop (a : MD) : MS := fun env => (a env).on fun _ e => .nx e
def mIfS (c : MB) (a b : MS) : MS := fun env => (c env).on fun x e => if x = true then a e else b e
/-- ghost: slot i frozen -/
def mFrz (i : Nat) (m : MS) : MS := fun env => match env[i]? with
  | some (some o) => m (env.set i (some (.d (fz o))))
  | _ => .fail
section
variable {X : Cx} {W : WX} {fx : List Nat} {pos : Pos} {st : Stmt} {rest body : List Stmt} {t u : TS} {m n : MS} {e : Expr} {te : TE} {me : MD}
theorem sns_skip {K : PySem.W.Frag} : SnS K W fx tNext mSkip := fun F H σ env fp D' R h => h F H σ fp Po.refl Fx.refl R
theorem sns_seq {K : PySem.W.Frag} (h1 : SnS K W fx t m) (h2 : SnS K W fx u n) : SnS K W fx (tSeq t u) (mSeq m n) := by
  intro F H σ env fp D' R h
  refine h1 F H σ env fp _ R ?_
  unfold mSeq at h
  generalize m env = r at h
  cases r with
  | nx e1 => exact fun F' H' σ' fp' P x R' => h2 F' H' σ' e1 fp' D' R' (OutS.step P x h)
  | rt d e1 => exact h
  | ro o e1 => exact h
  | bk e1 => exact h
  | ct e1 => exact h
  | exc y e1 => exact h
  | fail => exact h
theorem pdb_nil : PDB X W fx [] tNext mSkip := ⟨pss_nil, sns_skip⟩
theorem pdb_cons (h1 : PDS X W fx st t m) (h2 : PDB X W fx rest u n) : PDB X W fx (st :: rest) (tSeq t u) (mSeq m n) := ⟨pss_cons h1.ps h2.ps, sns_seq h1.sn h2.sn⟩
theorem pdb_one (h1 : PDS X W fx st t m) : PDB X W fx [st] t m := ⟨pss_one h1.ps, h1.sn⟩
/-- name = value -/
theorem pds_set {i : Nat} {x : Str} {pos' : Pos} (hN : X.N.Nodup) (hi : X.N[i]? = some x) (hx : Loc X.env.scope x) (he : PD X W e te me) (hf : i ∉ fx := by decide) (hs : swapsWith e (some (.Name x pos')) pos.line X.env = pure false := by rfl) (hfn : X.fn x = true ∨ X.env.scope.names.lookup x = some .local := by first | exact .inl rfl | exact .inr rfl | assumption) :
    PDS X W fx (.Assign [.Name x pos'] e pos) (tAsg te (gName i)) (mSet i me) := by
  refine ⟨ps_set hN hi hx he.pe hs hfn, fun F H σ env fp D' R h => ?_⟩
  refine he.sn.goS ex_emp R h fun F1 H1 fp1 env1 d v P1 R1 d1 h1 => ?_
  obtain ⟨fp2, R2, sub⟩ := R1.set (i := i) d1
  exact h1 F1 H1 _ fp2 (Po.sub sub) (Fx.set hf) R2
theorem pds_setO {i : Nat} {x : Str} {pos' : Pos} {mo : MO} (hN : X.N.Nodup) (hi : X.N[i]? = some x) (hx : Loc X.env.scope x) (he : PDO X W e te mo) (hf : i ∉ fx := by decide) (hs : swapsWith e (some (.Name x pos')) pos.line X.env = pure false := by rfl) (hfn : X.fn x = true ∨ X.env.scope.names.lookup x = some .local := by first | exact .inl rfl | exact .inr rfl | assumption) :
    PDS X W fx (.Assign [.Name x pos'] e pos) (tAsg te (gName i)) (mSetO i mo) := by
  refine ⟨ps_set hN hi hx he.pe hs hfn, fun F H σ env fp D' R h => ?_⟩
  refine he.sn.goS R h fun F1 H1 f1 f2 env1 o v P1 R1 h1 => ?_
  by_cases hl : i < env1.length
  · rw [if_pos hl] at h1
    obtain ⟨fp2, R2, sub⟩ := R1.set hl
    exact h1 F1 H1 _ fp2 (Po.sub sub) (Fx.set hf) R2
  · rw [if_neg hl] at h1
    exact h1.elim
theorem pds_ret (he : PD X W e te me) : PDS X W fx (.Return (some e) pos) (tRet te) (mRet me) :=
  ⟨ps_ret he.pe, fun F H σ env fp D' R h => he.sn.goS ex_emp R h fun F1 H1 fp1 env1 d v P1 R1 d1 h1 => h1 F1 H1 σ fp1 v Po.refl Fx.refl R1 d1⟩
theorem pds_retO {mo : MO} (he : PDO X W e te mo) : PDS X W fx (.Return (some e) pos) (tRet te) (mRetO mo) :=
  ⟨ps_ret he.pe, fun F H σ env fp D' R h => he.sn.goS R h fun F1 H1 f1 f2 env1 o v P1 R1 h1 => h1 F1 H1 σ f1 f2 v Po.refl Fx.refl R1⟩
theorem pds_if {c : Expr} {a b : List Stmt} {tc : TT} {mc : MB} {ma mb : MS} (hc : PDT X W c tc mc) (ha : PDB X W fx a t ma) (hb : PDB X W fx b u mb) : PDS X W fx (.If c a b pos) (tIfS tc t u) (mIfS mc ma mb) := by
  refine ⟨ps_if hc.pt ha.ps hb.ps, fun F H σ env fp D' R h => ?_⟩
  refine hc.sn.goS ex_emp R h fun F1 H1 fp1 env1 x y P1 R1 d1 h1 => ?_
  have e' : x = y := d1
  subst e'
  cases x with
  | true => exact ha.sn F1 H1 σ env1 fp1 D' R1 h1
  | false => exact hb.sn F1 H1 σ env1 fp1 D' R1 h1
/-- ghost -/
theorem pds_frz {i : Nat} (h : PDS X W fx st t m) : PDS X W fx st (tFixS t) (mFrz i m) := by
  refine ⟨ps_fix h.ps, fun F H σ env fp D' R hq => ?_⟩
  unfold mFrz at hq
  split at hq
  · rename_i o ei
    obtain ⟨f0, nd, _, k⟩ := R.frz ei
    refine ⟨f0, nd, fun H2 l => ?_⟩
    obtain ⟨F', fp', R', P⟩ := k H2 l
    exact h.sn F' H2 σ _ fp' D' R' (OutS.step P Fx.refl hq)
  · exact hq.elim
end
def Itr (wk : Bool) (K : PySem.W.Frag) (F0 : Hp) (ds : List D) (J : It) : Prop := ∀ F H, Ex F0 F → FH F H → ∀ (i : Nat), (∀ d, ds[i]? = some d → J.go i H ∧ ∀ x H', J.yld i H x H' → ∃ F', Gr F H F' H' ∧ Denb wk K F' d x) ∧ (ds.length ≤ i → J.stop i H)
structure PDI (wk : Bool) (X : Cx) (W : WX) (tg iter : Expr) (wi : TI) (m : MA) : Prop where
  pi : PI X tg iter wi
  sn : Sn X.K W (Itr wk X.K) emp wi m
/-- targets: gs, the slots that it stores -/
def SnG (wk : Bool) (K : PySem.W.Frag) (gs : List Nat) (g : TG) (mg : D → DEnv → Option DEnv) : Prop :=
  ∀ (F H : Hp) (σ : L2.St) (env env' : DEnv) (fp : List Addr) (d : D) (v : V) (Q : L2.St → Hp → Prop), Rel K F H σ env fp → Denb wk K F d v → mg d env = some env' →
    (∀ F' H' σ' fp', Po F H fp F' H' fp' → Rel K F' H' σ' env' fp' → σ'.length = σ.length → (∀ j, j ∉ gs → σ'[j]? = σ[j]?) → Q σ' H') → g v σ H Q
structure PDG (wk : Bool) (X : Cx) (gs : List Nat) (tg : Expr) (g : TG) (mg : D → DEnv → Option DEnv) : Prop where
  pg : PG X tg g
  sn : SnG wk X.K gs g mg
def gV (i : Nat) : D → DEnv → Option DEnv := fun d env => some (env.set i (some (.d d)))
theorem pdg_name {X : Cx} {i : Nat} {x : Str} {pos : Pos} (hN : X.N.Nodup) (hi : X.N[i]? = some x) (hx : Loc X.env.scope x) (hf : X.fn x = true ∨ X.env.scope.names.lookup x = some .local := by first | exact .inl rfl | exact .inr rfl | assumption) : PDG false X [i] (.Name x pos) (gName i) (gV i) := by
  refine ⟨pg_name hN hi hx hf, fun F H σ env env' fp d v Q R hd he k => ?_⟩
  cases he
  obtain ⟨fp2, R2, sub⟩ := R.set (i := i) (show Den X.K F d v from hd)
  exact k F H _ fp2 (Po.sub sub) R2 (by simp) fun j hj => List.getElem?_set_ne fun e => hj (by simp [e])
/-- a list of targets against a list of things -/
def SnGs (K : PySem.W.Frag) (gs : List Nat) (g : TGs) (mg : List D → DEnv → Option DEnv) : Prop :=
  ∀ (F H : Hp) (σ : L2.St) (env env' : DEnv) (fp : List Addr) (ds : List D) (vs : List V) (Q : L2.St → Hp → Prop), Rel K F H σ env fp → Dens K F ds vs → mg ds env = some env' →
    (∀ F' H' σ' fp', Po F H fp F' H' fp' → Rel K F' H' σ' env' fp' → σ'.length = σ.length → (∀ j, j ∉ gs → σ'[j]? = σ[j]?) → Q σ' H') → g vs σ H Q
structure PDGs (X : Cx) (gs : List Nat) (ts : List Expr) (g : TGs) (mg : List D → DEnv → Option DEnv) : Prop where
  pg : PGs X ts g
  sn : SnGs X.K gs g mg
def gVnil : List D → DEnv → Option DEnv := fun ds env => match ds with
  | [] => some env
  | _ => none
def gVcons (a : D → DEnv → Option DEnv) (b : List D → DEnv → Option DEnv) : List D → DEnv → Option DEnv := fun ds env => match ds with
  | d :: r => (a d env).bind fun e => b r e
  | [] => none
theorem pdgs_nil {X : Cx} : PDGs X [] [] gNil gVnil := by
  refine ⟨pgs_nil, fun F H σ env env' fp ds vs Q R hd he k => ?_⟩
  cases ds with
  | nil =>
    cases he
    exact ⟨hd, k F H σ fp Po.refl R rfl fun _ _ => rfl⟩
  | cons d r => cases he
theorem pdgs_cons {X : Cx} {gs hs : List Nat} {e : Expr} {es : List Expr} {t : TG} {u : TGs} {a : D → DEnv → Option DEnv} {b : List D → DEnv → Option DEnv} (h1 : PDG false X gs e t a) (h2 : PDGs X hs es u b)
    (hq : (assignEach (e :: es) X.env).map (·.2) = assign e X.env :: (assignEach es X.env).map (·.2) := by rfl) : PDGs X (gs ++ hs) (e :: es) (gCons t u) (gVcons a b) := by
  refine ⟨pgs_cons h1.pg h2.pg hq, fun F H σ env env' fp ds vs Q R hd he k => ?_⟩
  cases ds with
  | nil => cases he
  | cons d r =>
    obtain ⟨x, xs, rfl, q1, q2⟩ := hd
    unfold gVcons at he
    obtain ⟨e1, he1, he2⟩ := Option.bind_eq_some_iff.mp he
    refine ⟨x, xs, rfl, h1.sn F H σ env e1 fp d x _ R q1 he1 fun F1 H1 σ1 fp1 P1 R1 l1 k1 => ?_⟩
    refine h2.sn F1 H1 σ1 e1 env' fp1 r xs Q R1 (Dens.mono P1.f _ _ q2) he2 fun F2 H2 σ2 fp2 P2 R2 l2 k2 => ?_
    exact k F2 H2 σ2 fp2 (P1.trans P2) R2 (l2.trans l1) fun j hj => (k2 j fun z => hj (List.mem_append_right _ z)).trans (k1 j fun z => hj (List.mem_append_left _ z))
/-- a tuple of targets: the number of them -/
def gT (n : Nat) (b : List D → DEnv → Option DEnv) : D → DEnv → Option DEnv := fun d env => match d with
  | .tup ds => if ds.length = n then b ds env else none
  | _ => none
theorem pdg_tup {wk : Bool} {X : Cx} {gs : List Nat} {es : List Expr} {k : Nat} {t : TGs} {n : Nat} {b : List D → DEnv → Option DEnv} {pos : Pos} (hc : X.calm = true) (h : PDGs X gs es t b)
    (hn : (assignEach es X.env).length = n := by rfl) (hst : (assignEach es X.env).findIdx? (·.1) = none := by rfl) : PDG wk X gs (.Tuple es k pos) (gTup X.K n t) (gT n b) := by
  refine ⟨pg_tup hc h.pg hn hst, fun F H σ env env' fp d v Q R hd he kk => ?_⟩
  cases d with
  | tup ds =>
    obtain ⟨a, vs, rfl, q1, q2⟩ := hd.w.tup
    have he' : (if ds.length = n then b ds env else none) = some env' := he
    by_cases hl : ds.length = n
    · rw [if_pos hl] at he'
      exact ⟨a, vs, rfl, .inl (R.ex.rd q1), by rw [← Dens.length q2]; exact hl, h.sn F H σ env env' fp ds vs Q R q2 he' kk⟩
    · rw [if_neg hl] at he'
      cases he'
  | _ => cases he
/-- target = value -/
def mAsg (a : MD) (mg : D → DEnv → Option DEnv) : MS := fun env => (a env).on fun d e => match mg d e with
  | some e' => .nx e'
  | none => .fail
theorem sns_asg {wk : Bool} {K : PySem.W.Frag} {W : WX} {fx gs : List Nat} {te : TE} {me : MD} {g : TG} {mg : D → DEnv → Option DEnv} (he : Sn K W (Denb wk K) emp te me) (hg : SnG wk K gs g mg) (hd : (gs.all fun i => !fx.contains i) = true) : SnS K W fx (tAsg te g) (mAsg me mg) := by
  intro F H σ env fp D' R h
  refine he.goS ex_emp R h fun F1 H1 fp1 env1 d v P1 R1 d1 h1 => ?_
  cases hm : mg d env1 with
  | none =>
    rw [hm] at h1
    exact h1.elim
  | some e2 =>
    rw [hm] at h1
    refine hg F1 H1 σ env1 e2 fp1 d v _ R1 d1 hm fun F2 H2 σ2 fp2 P2 R2 l2 k2 => h1 F2 H2 σ2 fp2 P2 (fun j hj => k2 j fun z => ?_) R2
    have := List.all_eq_true.mp hd j z
    simp [hj] at this
theorem pds_asg {X : Cx} {W : WX} {fx gs : List Nat} {tg e : Expr} {te : TE} {me : MD} {g : TG} {mg : D → DEnv → Option DEnv} {pos : Pos} (he : PD X W e te me) (hg : PDG false X gs tg g mg) (hd : (gs.all fun i => !fx.contains i) = true := by decide)
    (hs : swapsWithSole [tg] e pos.line X.env = pure false := by rfl) (hw : swappedStores [tg] e X.env = pure none := by rfl) (h1 : (assignEach [tg] X.env).map (·.2) = [assign tg X.env] := by rfl) : PDS X W fx (.Assign [tg] e pos) (tAsg te g) (mAsg me mg) :=
  ⟨ps_asg he.pe hg.pg hs hw h1, sns_asg (wk := false) he.sn hg.sn hd⟩
theorem pds_asgw {X : Cx} {W : WX} {fx gs : List Nat} {tg e : Expr} {te : TE} {me : MD} {g : TG} {mg : D → DEnv → Option DEnv} {pos : Pos} (he : PDw X W e te me) (hg : PDG true X gs tg g mg) (hd : (gs.all fun i => !fx.contains i) = true := by decide)
    (hs : swapsWithSole [tg] e pos.line X.env = pure false := by rfl) (hw : swappedStores [tg] e X.env = pure none := by rfl) (h1 : (assignEach [tg] X.env).map (·.2) = [assign tg X.env] := by rfl) : PDS X W fx (.Assign [tg] e pos) (tAsg te g) (mAsg me mg) :=
  ⟨ps_asg he.pe hg.pg hs hw h1, sns_asg (wk := true) he.sn hg.sn hd⟩
def forM (tg : D → DEnv → Option DEnv) (body : MS) : List D → MS
  | [], env => .nx env
  | d :: ds, env => match tg d env with
    | none => .fail
    | some e1 => match body e1 with
      | .nx e2 => forM tg body ds e2
      | .ct e2 => forM tg body ds e2
      | .bk e2 => .nx e2
      | .rt d e2 => .rt d e2
      | .ro o e2 => .ro o e2
      | .exc x e2 => .exc x e2
      | .fail => .fail
def mFor (it : MA) (tg : D → DEnv → Option DEnv) (body : MS) : MS := fun env => (it env).on fun ds e => forM tg body ds e
theorem pds_for {wk : Bool} {X : Cx} {W : WX} {fx gs : List Nat} {tg iter : Expr} {body : List Stmt} {wi : TI} {g : TG} {tb : TS} {pos : Pos} {mi : MA} {mg : D → DEnv → Option DEnv} {mb : MS} (hp : PassesOwn (model X.prog X.w) X.A X.env X.xe) (hc : X.calm = true) (hi : PDI wk X W tg iter wi mi) (hg : PDG wk X gs tg g mg) (hb : PDB X W fx body tb mb)
    (hd : (gs.all fun i => !fx.contains i) = true := by decide) (hs : ∀ x, foldedSetIterable iter X.env x = pure x := by intro _; rfl) : PDS X W fx (.For tg iter body [] pos) (tFor wi g tb) (mFor mi mg mb) := by
  refine ⟨ps_for hp hc hi.pi hg.pg hb.ps hs, fun F H σ env fp D' R h => ?_⟩
  have hfx : ∀ j ∈ fx, j ∉ gs := fun j hj hg => by
    have := List.all_eq_true.mp hd j hg
    simp [hj] at this
  refine hi.sn.goS ex_emp R h fun F1 H1 fp1 env1 ds J P1 R1 d1 h1 => ?_
  refine ⟨fun i m σ H => m + i = ds.length ∧ ∃ F env fp, Ex F1 F ∧ Rel X.K F H σ env fp ∧ OutS X.K W fx F H σ fp D' (forM mg mb (ds.drop i) env), ⟨ds.length, rfl, F1, env1, fp1, Ex.refl _, R1, h1⟩, ?_⟩
  rintro i m σ2 H2 ⟨hm, F2, env2, fp2, e2, R2, h2⟩
  obtain ⟨go, stop⟩ := d1 F2 H2 e2 R2.ex i
  by_cases hlt : i < ds.length
  · have hdi : ds[i]? = some ds[i] := List.getElem?_eq_getElem hlt
    obtain ⟨go, yld⟩ := go _ hdi
    refine .inr ⟨go, fun σ' H' => ∃ F env fp, Ex F1 F ∧ Rel X.K F H' σ' env fp ∧ OutS X.K W fx F H' σ' fp D' (forM mg mb (ds.drop (i + 1)) env), fun σ' H' z => ⟨m - 1, by omega, by omega, z⟩, fun x H' hy => ?_⟩
    obtain ⟨F3, g3, dx⟩ := yld x H' hy
    have R3 := R2.grow g3
    rw [List.drop_eq_getElem_cons hlt] at h2
    have h3 := OutS.step (g3.po (fp := fp2)) Fx.refl h2
    cases ht : mg ds[i] env2 with
    | none =>
      unfold forM at h3
      rw [ht] at h3
      exact h3.elim
    | some e3 =>
      refine hg.sn F3 H' σ2 env2 e3 fp2 _ x _ R3 dx ht fun F4 H4 σ4 fp4 P4 R4 l4 k4 => ?_
      have x4 : Fx fx σ2 σ4 := fun j hj => k4 j (hfx j hj)
      have h4 := OutS.step P4 x4 h3
      refine hb.sn F4 H4 σ4 e3 fp4 _ R4 ?_
      unfold forM at h4
      rw [ht] at h4
      dsimp only at h4
      generalize mb e3 = r at h4
      have e3' : Ex F1 F4 := (e2.trans g3.f).trans P4.f
      cases r with
      | nx e5 => exact fun F5 H5 σ5 fp5 P5 x5 R5 => ⟨F5, e5, fp5, e3'.trans P5.f, R5, OutS.step P5 x5 h4⟩
      | ct e5 => exact fun F5 H5 σ5 fp5 P5 x5 R5 => ⟨F5, e5, fp5, e3'.trans P5.f, R5, OutS.step P5 x5 h4⟩
      | bk e5 => exact h4
      | rt d e5 => exact h4
      | ro o e5 => exact h4
      | exc y e5 => exact h4
      | fail => exact h4
  · refine .inl ⟨stop (by omega), ?_⟩
    rw [List.drop_of_length_le (by omega)] at h2
    exact h2 F2 H2 σ2 fp2 Po.refl Fx.refl R2
end DD
namespace DD
open PySem L2
section
variable {K : PySem.W.Frag} {F F' H H' : Hp} {σ σ' : L2.St} {env env' : DEnv} {fp f1 f2 f2' : List Addr} {o : O} {v : V}
/-- what is owned aside stays while the rest goes on -/
theorem RelO.frame (R : RelO K F H σ env f1 f2 o v) (P : Po F H f2 F' H' f2') (R' : Rel K F' H' σ' env' f2') : RelO K F' H' σ' env' f1 f2' o v ∧ Po F H (f1 ++ f2) F' H' (f1 ++ f2') := by
  have nd := List.nodup_append.mp R.nd
  have ne : ∀ a ∈ f1, a ∉ f2 := fun a ha hb => nd.2.2 a ha a hb rfl
  have dom := OwnAt.dom o v f1 R.own
  have ne' : ∀ a ∈ f1, a ∉ f2' := fun a ha hb => by
    rcases P.fresh a hb with z | z
    · exact ne a ha z
    · obtain ⟨u, hu⟩ := dom a ha
      rw [hu.e] at z
      cases z
  refine ⟨⟨R'.ex, R'.at_, OwnAt.mono P.f o v f1 (fun a ha => ?_) R.own, List.nodup_append.mpr ⟨nd.1, R'.nd, fun a ha b hb e => ne' a ha (e ▸ hb)⟩, fun a ha => ?_⟩, ⟨P.f, fun a u h n => P.keep a u h fun z => n (List.mem_append_right _ z), fun a ha => ?_, fun a u h1 h2 n => P.out a u h1 h2 fun z => n (List.mem_append_right _ z)⟩⟩
  · obtain ⟨u, hu⟩ := dom a ha
    rw [hu.e, (P.keep a u hu.e (ne a ha)).of (tb_tp hu.n)]
  · rcases List.mem_append.mp ha with z | z
    · obtain ⟨u, hu⟩ := dom a z
      exact P.out a u (R.out a (List.mem_append_left _ z)) hu (ne a z)
    · exact R'.out a z
  · rcases List.mem_append.mp ha with z | z
    · exact .inl (List.mem_append_left _ z)
    · exact (P.fresh a z).imp (List.mem_append_right _) id
theorem RelO.rel (R : RelO K F H σ env f1 f2 o v) : Rel K F H σ env f2 := ⟨R.ex, R.at_, (List.nodup_append.mp R.nd).2.1, fun a ha => R.out a (List.mem_append_right _ ha)⟩
theorem owns_map : ∀ {ds : List D} {vs : List V}, Dens K F ds vs → OwnsAt K F H (ds.map O.d) vs []
  | [], vs, h => ⟨h, rfl⟩
  | d :: ds, vs, ⟨x, xs, r, s, t⟩ => ⟨x, xs, [], [], r, rfl, ⟨s, rfl⟩, owns_map t⟩
end
theorem own_oL {K : PySem.W.Frag} {F H : Hp} {a : Addr} {xs : List V} {ds : List D} (h : H a = some (.lst xs)) (d : Dens K F ds xs) : OwnAt K F H (oL ds) (.ref a) [a] := ⟨a, xs, [], rfl, rfl, h, owns_map d⟩
/-- a new object that is owned -/
theorem Rel.newO {K : PySem.W.Frag} {F H : Hp} {σ : L2.St} {env : DEnv} {fp : List Addr} {p : Addr} {u : HO} {o : O} (R : Rel K F H σ env fp) (hp : H p = none) (ho : OwnAt K F (upd H p u) o (.ref p) [p]) :
    RelO K F (upd H p u) σ env [p] fp o (.ref p) ∧ Po F H fp F (upd H p u) ([p] ++ fp) := by
  have hF : F p = none := R.ex.no hp
  have hn : p ∉ fp := fun z => by
    obtain ⟨u, hu⟩ := R.at_.dom p z
    have hu := hu.e
    rw [hp] at hu
    cases hu
  refine ⟨⟨R.ex.upd hF, R.at_.mono (Ex.refl _) fun a ha => upd_ne fun z => hn (z ▸ ha), ho, List.nodup_cons.mpr ⟨hn, R.nd⟩, fun a ha => ?_⟩, ⟨Ex.refl _, fun a u h _ => .inl (Ex.new hp a u h), fun a ha => ?_, fun _ _ h _ _ => h⟩⟩
  · rcases List.mem_cons.mp ha with z | z
    · rw [z]
      exact hF
    · exact R.out a z
  · rcases List.mem_cons.mp ha with z | z
    · exact .inr (z ▸ hp)
    · exact .inl z
/-- an owned object written -/
theorem RelO.write {K : PySem.W.Frag} {F H : Hp} {σ : L2.St} {env : DEnv} {f1 f2 : List Addr} {o o' : O} {v : V} {a : Addr} {u : HO} (R : RelO K F H σ env f1 f2 o v) (ha : a ∈ f1) (ho : OwnAt K F (upd H a u) o' v f1) :
    RelO K F (upd H a u) σ env f1 f2 o' v ∧ Po F H (f1 ++ f2) F (upd H a u) (f1 ++ f2) := by
  have nd := List.nodup_append.mp R.nd
  have hF : F a = none := R.out a (List.mem_append_left _ ha)
  have ne : ∀ b ∈ f2, b ≠ a := fun b hb z => nd.2.2 a ha b hb z.symm
  refine ⟨⟨R.ex.upd hF, R.at_.mono (Ex.refl _) fun b hb => upd_ne (ne b hb), ho, R.nd, R.out⟩, ⟨Ex.refl _, fun b w h n => ?_, fun b hb => .inl hb, fun _ _ h _ _ => h⟩⟩
  · rw [upd_ne fun z => n (by rw [z]; exact List.mem_append_left _ ha)]
    exact .inl h
theorem wipe_get (σ : L2.St) : ∀ (vs : List Nat) (j : Nat), j < σ.length → (wipe σ vs)[j]? = if j ∈ vs then some none else σ[j]?
  | [], j, _ => by simp [wipe]
  | v :: vs, j, hj => by
    unfold wipe
    by_cases h : v = j
    · subst h
      rw [List.getElem?_set_self (by rw [wipe_length]; exact hj), if_pos List.mem_cons_self]
    · rw [List.getElem?_set_ne h, wipe_get σ vs j hj]
      have hj' : ¬ j = v := fun e => h e.symm
      by_cases h2 : j ∈ vs
      · rw [if_pos h2, if_pos (List.mem_cons_of_mem _ h2)]
      · rw [if_neg h2, if_neg (by simp [hj', h2])]
/-- the same but for the slots vs -/
theorem wipe_eq {σ τ : L2.St} {vs : List Nat} (hl : σ.length = τ.length) (h : ∀ (j : Nat), j ∉ vs → σ[j]? = τ[j]?) : wipe σ vs = wipe τ vs := by
  apply List.ext_getElem?
  intro j
  by_cases hj : j < τ.length
  · rw [wipe_get σ vs j (by omega), wipe_get τ vs j hj]
    by_cases hm : j ∈ vs
    · rw [if_pos hm, if_pos hm]
    · rw [if_neg hm, if_neg hm, h j hm]
  · rw [List.getElem?_eq_none (by rw [wipe_length]; omega), List.getElem?_eq_none (by rw [wipe_length]; omega)]
theorem wipe_wipe {σ : L2.St} {vs : List Nat} : wipe (wipe σ vs) vs = wipe σ vs := by
  refine wipe_eq (wipe_length _ _) fun j hj => ?_
  by_cases h : j < σ.length
  · rw [wipe_get σ vs j h, if_neg hj]
  · rw [List.getElem?_eq_none (by rw [wipe_length]; omega), List.getElem?_eq_none (by omega)]
section
variable {K : PySem.W.Frag} {F H : Hp} {σ τ : L2.St} {env : DEnv} {fp : List Addr}
/-- slots forgotten, whatever stands in them -/
theorem Rel.wipe (R : Rel K F H σ env fp) : ∀ (vs : List Nat), (∀ v ∈ vs, v < env.length) → ∃ fp', Rel K F H (L2.wipe σ vs) (wipeE env vs) fp' ∧ ∀ a ∈ fp', a ∈ fp
  | [], _ => ⟨fp, R, fun _ h => h⟩
  | v :: vs, hv => by
    obtain ⟨f1, R1, s1⟩ := R.wipe vs fun u hu => hv u (List.mem_cons_of_mem _ hu)
    obtain ⟨f2, R2, s2⟩ := R1.forget (i := v) (x := none) (by rw [wipeE_length]; exact hv v List.mem_cons_self)
    exact ⟨f2, R2, fun a ha => s1 a (s2 a ha)⟩
theorem envAt_swap : ∀ {σ τ : L2.St} {env : DEnv} {fp : List Addr}, σ.length = τ.length → (∀ (j : Nat) (o : O), env[j]? = some (some o) → σ[j]? = τ[j]?) → EnvAt K F H σ env fp → EnvAt K F H τ env fp
  | [], [], [], _, _, _, h => h
  | x :: σ, y :: τ, none :: env, fp, hl, hs, h => envAt_swap (σ := σ) (τ := τ) (env := env) (fp := fp) (by simpa using hl) (fun j o e => by simpa using hs (j + 1) o (by simpa using e)) h
  | x :: σ, y :: τ, some o :: env, fp, hl, hs, ⟨z, f1, f2, e1, e2, h1, h2⟩ => ⟨z, f1, f2, by
      have := hs 0 o rfl
      have e : x = y := by simpa using this
      rw [← e]; exact e1, e2, h1, envAt_swap (by simpa using hl) (fun j o e => by simpa using hs (j + 1) o (by simpa using e)) h2⟩
  | [], _ :: _, _, _, hl, _, _ => by simp at hl
  | _ :: _, [], _, _, hl, _, _ => by simp at hl
  | [], [], _ :: _, _, _, _, h => h.elim
  | _ :: _, _ :: _, [], _, _, _, h => h.elim
theorem Rel.swap (R : Rel K F H σ env fp) (hl : σ.length = τ.length) (hs : ∀ (j : Nat) (o : O), env[j]? = some (some o) → σ[j]? = τ[j]?) : Rel K F H τ env fp := ⟨R.ex, envAt_swap hl hs R.at_, R.nd, R.out⟩
end
theorem wipeE_get (env : DEnv) : ∀ (vs : List Nat) (j : Nat) (o : O), (wipeE env vs)[j]? = some (some o) → j ∉ vs ∧ env[j]? = some (some o)
  | [], j, o, h => ⟨by simp, h⟩
  | v :: vs, j, o, h => by
    unfold wipeE at h
    by_cases e : v = j
    · subst e
      by_cases hl : v < (wipeE env vs).length
      · rw [List.getElem?_set_self hl] at h
        cases h
      · rw [List.getElem?_eq_none (by simpa using hl)] at h
        cases h
    · rw [List.getElem?_set_ne e] at h
      obtain ⟨a, b⟩ := wipeE_get env vs j o h
      exact ⟨by simp only [List.mem_cons, not_or]; exact ⟨fun z => e z.symm, a⟩, b⟩
structure PDTs (X : Cx) (W : WX) (ifs : List Expr) (t : TT) (m : MB) : Prop where
  pt : PTs X ifs t
  sn : Sn X.K W relB emp t m
def mYes : MB := fun env => .ok true env
theorem pdts_nil {X : Cx} {W : WX} : PDTs X W [] tYes mYes := ⟨pts_nil, fun F H σ env fp Q _ R h => h F H fp true Po.refl R rfl⟩
theorem pdts_one {X : Cx} {W : WX} {c : Expr} {t : TT} {m : MB} (h : PDT X W c t m) : PDTs X W [c] t m := ⟨pts_one h.pt, h.sn⟩
def lcM (tg : D → DEnv → Option DEnv) (tst : MB) (elt : MD) (vs : List Nat) : List D → DEnv → Rs (List D)
  | [], env => .ok [] env
  | d :: ds, env => match tg d env with
    | none => .fail
    | some e1 => match tst e1 with
      | .ok true e2 => (match elt e2 with
        | .ok y e3 => (lcM tg tst elt vs ds (wipeE e3 vs)).bind fun ys e => .ok (y :: ys) e
        | _ => .fail)
      | .ok false e2 => lcM tg tst elt vs ds (wipeE e2 vs)
      | _ => .fail
/-- [elt for tg in it if tst] -/
def mLcs (it : MA) (tg : D → DEnv → Option DEnv) (tst : MB) (elt : MD) (vs : List Nat) : MA := fun env => (it env).bind fun ds e => if ds.length < sizeLine ∧ vs.all (· < e.length) = true then lcM tg tst elt vs ds (wipeE e vs) else .fail
theorem noD_bind {a : DEnv → Rs (List D)} : ∀ (env : DEnv) (o : O) (e : DEnv), ((a env).bind fun ys e => Rs.ok (oL ys) e) = .ok o e → noD o = true := by
  intro env o e h
  cases ha : a env with
  | ok ys e1 =>
    rw [ha, Rs.bind_ok] at h
    cases h
    exact noDs_map ys
  | exc x e1 => rw [ha] at h; cases h
  | fail => rw [ha] at h; cases h
def mLcO (it : MA) (tg : D → DEnv → Option DEnv) (tst : MB) (elt : MD) (vs : List Nat) : MO := fun env => (mLcs it tg tst elt vs env).bind fun ys e => .ok (oL ys) e
def mLc (it : MA) (tg : D → DEnv → Option DEnv) (tst : MB) (elt : MD) (vs : List Nat) : MD := fun env => (mLcs it tg tst elt vs env).bind fun ys e => .ok (.lst ys) e
abbrev W0 : WX := fun _ _ _ _ => False
theorem sno_lc {wk : Bool} {K : PySem.W.Frag} {W : WX} {gs vs : List Nat} {wi : TI} {mi : MA} {g : TG} {mg : D → DEnv → Option DEnv} {tt : TT} {mt : MB} {te : TE} {me : MD} (hi : Sn K W (Itr wk K) emp wi mi) (hg : SnG wk K gs g mg) (ht : Sn K W0 relB emp tt mt) (he : Sn K W0 (Den K) emp te me)
    (hgs : gs.all (fun i => vs.contains i) = true) : SnO K W (tLc wi g tt te vs) (mLcO mi mg mt me vs) := by
  intro F H σ env fp Q R h
  have hsub : ∀ j, j ∉ vs → j ∉ gs := fun j hj hg => hj (by simpa using List.all_eq_true.mp hgs j hg)
  refine hi F H σ env fp _ ex_emp R ?_
  unfold mLcO mLcs at h
  generalize mi env = r at h
  cases r with
  | fail => exact h
  | exc x e1 => exact fun F' H' fp' c dd P R' z => h F' H' fp' c dd P R' z
  | ok ds e1 =>
    intro F1 H1 fp1 J P1 R1 hJ Dd hD
    have h1 := OutO.step P1 h
    rw [Rs.bind_ok] at h1
    by_cases hz : ds.length < sizeLine ∧ vs.all (· < e1.length) = true
    · rw [if_pos hz] at h1
      obtain ⟨hz, hvs⟩ := hz
      have hvs' : ∀ v ∈ vs, v < e1.length := fun v hv => by simpa using List.all_eq_true.mp hvs v hv
      obtain ⟨fp2, R2, s2⟩ := R1.wipe vs hvs'
      -- relative to σ itself
      have back : ∀ {F H : Hp} {e : DEnv} {fp : List Addr}, Rel K F H (wipe σ vs) (wipeE e vs) fp → Rel K F H σ (wipeE e vs) fp := fun {F H e fp} R => R.swap (wipe_length σ vs) fun j o q => by
        have hj := (wipeE_get e vs j o q).1
        by_cases hl : j < σ.length
        · rw [wipe_get σ vs j hl, if_neg hj]
        · rw [List.getElem?_eq_none (by rw [wipe_length]; omega), List.getElem?_eq_none (by omega)]
      obtain ⟨N0, N1⟩ := R2.newO (u := .lst []) (o := oL []) hD (own_oL upd_same dens_nil)
      refine ⟨fun i m H => m + i = ds.length ∧ ∃ F e fp acc dacc, Ex F1 F ∧ RelO K F H (wipe σ vs) (wipeE e vs) [Dd] fp (oL dacc) (.ref Dd) ∧ dacc.length ≤ i ∧ H Dd = some (.lst acc) ∧ Dens K F dacc acc ∧
        OutO K W F H σ ([Dd] ++ fp) Q ((lcM mg mt me vs (ds.drop i) (wipeE e vs)).bind fun ys e => .ok (oL (dacc ++ ys)) e), ⟨ds.length, rfl, F1, e1, fp2, [], [], Ex.refl _, N0, Nat.le_refl _, upd_same, dens_nil, ?_⟩, ?_⟩
      · refine OutO.step ((Po.sub s2).trans N1) ?_
        exact h1
      · rintro i m H2 ⟨hm, F2, e2, fp2, acc, dacc, x2, R2, hl, hacc, dac, h2⟩
        obtain ⟨go, stop⟩ := hJ F2 H2 x2 R2.ex i
        by_cases hlt : i < ds.length
        · have hdi : ds[i]? = some ds[i] := List.getElem?_eq_getElem hlt
          obtain ⟨go, yld⟩ := go _ hdi
          refine .inr ⟨go, fun H' => ∃ F e fp acc dacc, Ex F1 F ∧ RelO K F H' (wipe σ vs) (wipeE e vs) [Dd] fp (oL dacc) (.ref Dd) ∧ dacc.length ≤ i + 1 ∧ H' Dd = some (.lst acc) ∧ Dens K F dacc acc ∧
            OutO K W F H' σ ([Dd] ++ fp) Q ((lcM mg mt me vs (ds.drop (i + 1)) (wipeE e vs)).bind fun ys e => .ok (oL (dacc ++ ys)) e), fun H' z => ⟨m - 1, by omega, by omega, z⟩, fun x H' hy => ?_⟩
          obtain ⟨F3, g3, dx⟩ := yld x H' hy
          obtain ⟨R3, P3⟩ := R2.frame (g3.po (fp := fp2)) (R2.rel.grow g3)
          rw [List.drop_eq_getElem_cons hlt] at h2
          unfold lcM at h2
          cases hmg : mg ds[i] (wipeE e2 vs) with
          | none =>
            rw [hmg] at h2
            exact h2.elim
          | some e3 =>
            rw [hmg] at h2
            dsimp only at h2
            refine hg F3 H' (wipe σ vs) (wipeE e2 vs) e3 fp2 _ x _ R3.rel dx hmg fun F4 H4 σ4 fp4 P4 R4 l4 k4 => ?_
            have ew : wipe σ4 vs = wipe σ vs := by
              rw [wipe_eq l4 fun j hj => k4 j (hsub j hj), wipe_wipe]
            refine ⟨ew, ?_⟩
            obtain ⟨R4', P4'⟩ := R3.frame P4 R4
            refine ht F4 H4 σ4 e3 fp4 _ ex_emp R4 ?_
            have h4 := OutO.step (P3.trans P4') h2
            have hD4 : H4 Dd = some (.lst acc) := (P4.keep Dd _ ((g3.h Dd _ hacc).of) (fun z => (List.nodup_append.mp R3.nd).2.2 Dd (by simp) Dd z rfl)).of
            cases hmt : mt e3 with
            | fail =>
              rw [hmt] at h4
              exact h4.elim
            | exc y e4 =>
              rw [hmt] at h4
              exact h4.elim
            | ok b e4 =>
              rw [hmt] at h4
              intro F5 H5 fp5 b' P5 R5 eb
              have eb' : b = b' := eb
              subst eb'
              obtain ⟨R5', P5'⟩ := R4'.frame P5 R5
              have h5 := OutO.step P5' h4
              -- the rest of the turn: slots forgotten
              have fin : ∀ {F6 H6 : Hp} {e6 : DEnv} {fp6 : List Addr}, RelO K F6 H6 σ4 e6 [Dd] fp6 (oL dacc) (.ref Dd) → ∃ fp7, RelO K F6 H6 (wipe σ vs) (wipeE e6 vs) [Dd] fp7 (oL dacc) (.ref Dd) ∧ Po F6 H6 ([Dd] ++ fp6) F6 H6 ([Dd] ++ fp7) := fun {F6 H6 e6 fp6} R6 => by
                have l6 : ∀ v ∈ vs, v < e6.length := fun v hv => by
                  have a1 := hvs' v hv
                  have a2 := R6.rel.len
                  have a3 := R1.len
                  rw [l4, wipe_length] at a2
                  omega
                obtain ⟨fp7, R7, s7⟩ := R6.rel.wipe vs l6
                rw [ew] at R7
                exact ⟨fp7, R6.frame (Po.sub s7) R7⟩
              cases b with
              | false =>
                rw [if_neg Bool.false_ne_true]
                obtain ⟨fp7, R7, P7⟩ := fin R5'
                have hD5 : H5 Dd = some (.lst acc) := (P5.keep Dd _ hD4 (fun z => (List.nodup_append.mp R4'.nd).2.2 Dd (by simp) Dd z rfl)).of
                exact ⟨F5, e4, fp7, acc, dacc, ((x2.trans g3.f).trans P4.f).trans P5.f, R7, by omega, hD5, Dens.mono ((g3.f.trans P4.f).trans P5.f) _ _ dac, OutO.step P7 h5⟩
              | true =>
                rw [if_pos rfl]
                refine he F5 H5 σ4 e4 fp5 _ ex_emp R5 ?_
                cases hme : me e4 with
                | fail =>
                  dsimp only at h5
                  rw [hme] at h5
                  exact h5.elim
                | exc y e6 =>
                  dsimp only at h5
                  rw [hme] at h5
                  exact h5.elim
                | ok y e6 =>
                  dsimp only at h5
                  rw [hme] at h5
                  dsimp only at h5
                  intro F6 H6 fp6 yv P6 R6 dy
                  obtain ⟨R6', P6'⟩ := R5'.frame P6 R6
                  have h6 := OutO.step P6' h5
                  have hD5 : H5 Dd = some (.lst acc) := (P5.keep Dd _ hD4 (fun z => (List.nodup_append.mp R4'.nd).2.2 Dd (by simp) Dd z rfl)).of
                  have hD6 : H6 Dd = some (.lst acc) := (P6.keep Dd _ hD5 (fun z => (List.nodup_append.mp R5'.nd).2.2 Dd (by simp) Dd z rfl)).of
                  have dac6 : Dens K F6 dacc acc := Dens.mono (((g3.f.trans P4.f).trans P5.f).trans P6.f) _ _ dac
                  refine ⟨acc, hD6, by rw [← Dens.length dac]; omega, ?_⟩
                  obtain ⟨fp7, R7, P7⟩ := fin R6'
                  have dn : Dens K F6 (dacc ++ [y]) (acc ++ [yv]) := Dens.append dac6 (dens_cons dy dens_nil)
                  obtain ⟨R8, P8⟩ := R7.write (a := Dd) (u := .lst (acc ++ [yv])) (o' := oL (dacc ++ [y])) (by simp) (own_oL upd_same dn)
                  refine ⟨F6, e6, fp7, acc ++ [yv], dacc ++ [y], (((x2.trans g3.f).trans P4.f).trans P5.f).trans P6.f, R8, by simp; omega, upd_same, dn, ?_⟩
                  have h8 := OutO.step (P7.trans P8) h6
                  generalize lcM mg mt me vs (ds.drop (i + 1)) (wipeE e6 vs) = r at h8 ⊢
                  cases r with
                  | ok ys e9 =>
                    dsimp only [Rs.bind] at h8 ⊢
                    rw [List.append_assoc]
                    exact h8
                  | exc x9 e9 => exact h8
                  | fail => exact h8
        · refine .inl ⟨stop (by omega), ?_⟩
          rw [List.drop_of_length_le (by omega)] at h2
          have h3 : OutO K W F2 H2 σ ([Dd] ++ fp2) Q (.ok (oL dacc) (wipeE e2 vs)) := by
            have q : (lcM mg mt me vs [] (wipeE e2 vs)).bind (fun ys e => Rs.ok (oL (dacc ++ ys)) e) = Rs.ok (oL dacc) (wipeE e2 vs) := by
              unfold lcM
              rw [Rs.bind_ok, List.append_nil]
            rw [q] at h2
            exact h2
          exact h3 F2 H2 [Dd] fp2 (.ref Dd) Po.refl ⟨R2.ex, (back R2.rel).at_, R2.own, R2.nd, R2.out⟩
    · rw [if_neg hz] at h1
      exact h1.elim
theorem mLc_fz {it : MA} {tg : D → DEnv → Option DEnv} {tst : MB} {elt : MD} {vs : List Nat} : mFz (mLcO it tg tst elt vs) = mLc it tg tst elt vs := by
  funext env
  show ((mLcs it tg tst elt vs env).bind fun ys e => Rs.ok (oL ys) e).bind (fun o e => Rs.ok (fz o) e) = (mLcs it tg tst elt vs env).bind fun ys e => Rs.ok (.lst ys) e
  cases mLcs it tg tst elt vs env with
  | ok ys e => simp
  | exc x e => rfl
  | fail => rfl
section
variable {X : Cx} {W : WX} {gs : List Nat} {wi : TI} {mi : MA} {g : TG} {mg : D → DEnv → Option DEnv} {tt : TT} {mt : MB} {te : TE} {me : MD} {elt tg iter : Expr} {ifs : List Expr} {scope : Scope} {own : List (Str × Nat)} {pos : Pos}
/-- [elt for tg in iter if ..], owned -/
theorem pdo_lc {wk : Bool} (hc : X.calm = true) (hN : X.N.Nodup) (hi : PDI wk X W tg iter wi mi) (ok : BlkOk X.N X.env.scope scope own)
    (hg : ∀ (s : Shared) (H : Hp) (C : Addr) (cl : List (Str × Addr)) (fp : List Addr), PDG wk (X.blk s H scope (compEnvC scope cl C X.env) fp) gs tg g mg)
    (ht : ∀ (s : Shared) (H : Hp) (C : Addr) (cl : List (Str × Addr)) (fp : List Addr), PDTs (X.blk s H scope (compEnvC scope cl C X.env) fp) W0 ifs tt mt)
    (he : ∀ (s : Shared) (H : Hp) (C : Addr) (cl : List (Str × Addr)) (fp : List Addr), PD (X.blk s H scope (compEnvC scope cl C X.env) fp) W0 elt te me)
    (hgs : gs.all (fun i => (own.map (·.2)).contains i) = true := by decide) (hs : ∀ x, foldedSetIterable iter X.env x = pure x := by intro _; rfl) :
    PDO X W (.ListComp elt [⟨tg, iter, ifs, 0⟩] scope pos) (tLc wi g tt te (own.map (·.2))) (mLcO mi mg mt me (own.map (·.2))) :=
  ⟨pe_lc hc hN hi.pi ok (fun s H C cl fp => (hg s H C cl fp).pg) (fun s H C cl fp => (ht s H C cl fp).pt) (fun s H C cl fp => (he s H C cl fp).pe) hs,
    sno_lc hi.sn (hg X.s_0 X.H_0 0 [] []).sn (ht X.s_0 X.H_0 0 [] []).sn (he X.s_0 X.H_0 0 [] []).sn hgs⟩
theorem pd_lc {wk : Bool} (hc : X.calm = true) (hN : X.N.Nodup) (hi : PDI wk X W tg iter wi mi) (ok : BlkOk X.N X.env.scope scope own)
    (hg : ∀ (s : Shared) (H : Hp) (C : Addr) (cl : List (Str × Addr)) (fp : List Addr), PDG wk (X.blk s H scope (compEnvC scope cl C X.env) fp) gs tg g mg)
    (ht : ∀ (s : Shared) (H : Hp) (C : Addr) (cl : List (Str × Addr)) (fp : List Addr), PDTs (X.blk s H scope (compEnvC scope cl C X.env) fp) W0 ifs tt mt)
    (he : ∀ (s : Shared) (H : Hp) (C : Addr) (cl : List (Str × Addr)) (fp : List Addr), PD (X.blk s H scope (compEnvC scope cl C X.env) fp) W0 elt te me)
    (hgs : gs.all (fun i => (own.map (·.2)).contains i) = true := by decide) (hs : ∀ x, foldedSetIterable iter X.env x = pure x := by intro _; rfl) :
    PD X W (.ListComp elt [⟨tg, iter, ifs, 0⟩] scope pos) (tLc wi g tt te (own.map (·.2))) (mLc mi mg mt me (own.map (·.2))) := by
  have h := pd_fz0 (pdo_lc (W := W) (pos := pos) hc hN hi ok hg ht he hgs hs) (noD_bind)
  rw [mLc_fz] at h
  exact h
end
end DD
namespace DD
open PySem PySem.Spec PyProof.Rows L2
theorem Roam.in1 {k : Nat} {A : Around} (r : Roam (k + 1) A) : Roam k A.in1 := ⟨r.room.in1, r.gd⟩
theorem make_guards {A : Around} {C : Addr} {us : List Value} {kw : List (Str × Value)} : (A.under (.builtin "type.__call__" ⟨.ref C :: us, kw⟩)).guards = A.guards := by
  first | rfl | simp [Around.under, Code.guards, Code.isGuard, guardIds, pushGuards]
theorem Roam.make {k : Nat} {A : Around} (r : Roam (k + 1) A) (C : Addr) (us : List Value) (kw : List (Str × Value)) : Roam k (A.under (.builtin "type.__call__" ⟨.ref C :: us, kw⟩)) := ⟨r.room.make C us kw, make_guards.trans r.gd⟩
section
variable {X : Cx} {CX : CXT} {k : Nat} {f C p g a dx : Addr} {fs : List (Str × V)} {fd : FuncData} {ps : List Str} {sp : Sp} {E : L2.St → XK} {x m fl : Str} {pp pos apos : Pos} {e o : Expr} {es : List Expr} {ta : TE} {t : TA}
theorem run_fnG {pins : List (Addr × Obj)} {σ : L2.St} {H : Hp} {s : Shared} {Q : VK} {us : List Value} {vs : List V} (F : FnG X.prog X.w X.K X.mg X.base CX k f fd ps sp) (hr : Roam k X.A) (hb : Binds X.K fd ps []) (hx : PassesAt CX X σ (E σ))
    (I : Inv X pins σ H s) (r : Vals vs us) (h : sp vs H Q (E σ)) : wpAny (model X.prog X.w) X.A (call (.ref f) us) (EP X pins σ Q) X.xe s := by
  have hl : us.length = ps.length := by rw [← r.length]; exact F.len _ _ _ _ h
  have b := hb s us I.kIn (by rw [List.append_nil]; exact hl)
  rw [List.append_nil] at b
  refine wpAny_call (codeAny_mono (F.run X.A X.stack s H ⟨us, []⟩ us vs Q (E σ) hr I.env0 b r h) fun r s' hq => ?_)
  cases r with
  | error e => exact hx pins H s e s' I hq
  | ok fl =>
    cases fl with
    | ret u => exact I.after hq
    | next => exact False.elim hq
    | brk => exact False.elim hq
    | cont => exact False.elim hq
theorem pe_callG (F : FnG X.prog X.w X.K X.mg X.base CX k f fd ps sp) (hr : Roam k X.A) (hg : Gl X x) (hm : X.mg x = some (.ref f)) (hk : PySem.W.keepIn X.K (.ref f) = true) (hb : Binds X.K fd ps []) (hx : ∀ σ, PassesAt CX X σ (E σ))
    (ha : PA X (e :: es) t) (hdb : (x == ("__debug__" : Str)) = false := by decide) (he : starEach (e :: es) X.env = (false, eval e X.env) :: starEach es X.env := by rfl) (hpl : (backTo pos (starEach es X.env)).any (·.1) = false := by rfl) :
    PE X (.Call (.Name x pp) (e :: es) [] pos) (tCallS sp E t) := by
  refine ⟨fun pins s σ H Q I h => ?_⟩
  refine wpAny_Call_Name_kw (ld_glob I hg hm ?_ hdb)
  refine PySem.W.callWith_K (h₀ := X.base) I.ok.mod.kin hk (thn (ha.run pos pins s σ H _ I h) fun us s1 ⟨vs, H1, I1, r, q⟩ => ⟨I1.kIn, ?_⟩) he hpl
  exact run_fnG F hr hb (hx σ) I1 r q
end
section
variable {P : Program} {w : World} {K : PySem.W.Frag} {mg : Str → Option Value} {base : Heap} {x qual : Str} {params : Arguments} {body : List Stmt} {scope : Scope} {dvs : List V} {kws : List (Str × V)} {f : Addr} {fd : FuncData}
theorem FunD.okGc {CX : CXT} {N ps : List Str} {k : Nat} {sp : Sp} (F : FunD K x qual params body scope dvs kws f fd) (S : FnScope N ps scope) (len : ∀ vs H Q E, sp vs H Q E → vs.length = ps.length)
    (hbody : ∀ (cdv : Value), PySem.W.codeIn K cdv qual = true → fd.code = cdv → ∀ (A : Around) (outer : List PySem.Env) (s : Shared) (H : Hp) (vs : List V) (Q : VK) (E : XK), Roam k (A.deeper (envOfC qual scope s.heap.objs.size f cdv)) → sp vs H Q E →
      ∃ t, PSs (cxOf CX P w K mg base N qual scope f cdv A outer s H E) body t ∧ t { nx := fun _ H' => Q .non H', rt := Q } (L2.start N vs) H) : FnG P w K mg base CX (k + 1) f fd ps sp := by
  obtain ⟨oc, od, dV, kV, doc, pm, an, cdv, ct, osl, rfl, lk, hcd, _, _⟩ := F.ex
  refine ⟨len, fun A outer s H args us vs Q E hr e0 hb r hsp => ?_⟩
  have hl := len _ _ _ _ hsp
  have KX : K.In s.heap := e0.mod.kin.keeps fun b o e => (e0.bs b o e).1
  have lim : s.heap.NoLimit := e0.mod.nolimit.keeps fun b o e => (e0.bs b o e).1
  have hkind : ∀ y ∈ ps.zip us, scope.names.lookup y.1 = some .local ∨ (scope.names.lookup y.1 = some .cell ∧ ((cellsFrom (s.heap.objs.size + 1) scope.names []).lookup y.1).isSome = true) := fun ⟨n, v⟩ hy => by
    rcases S.par n (List.of_mem_zip hy).1 with q | q
    · exact .inl q
    · exact .inr ⟨q, PySem.W.cellsFrom_some _ _ _ (.inl q)⟩
  refine codeAny_call_function hr.room.depth (KX _ _ lk) rfl S.co S.gen rfl (PySem.W.codeRec_of KX hcd) (hb _ _ _ _ ?_)
  refine wpAny_newFunctionEnv_cells S.kind hkind fun env he s1 x => ?_
  subst he
  refine ⟨lim.keeps x.toInCall.keep, codeAny_func ?_⟩
  obtain ⟨t, ht, hq⟩ := hbody cdv hcd rfl A outer s H vs Q E (hr.deeper _) hsp
  have I : Inv (cxOf CX P w K mg base N qual scope f cdv A outer s H E) [] (L2.start N vs) H s1 := inv_start S hr.room.hd e0 hl r x
  refine wpAny_mono (ht.run [] s1 (L2.start N vs) H _ I hq) (fun fl s' hs => ?_) fun e s' hs => hs
  have fin : ∀ {σ' : L2.St} {H' : Hp} {v : V} {u : Value}, Inv (cxOf CX P w K mg base N qual scope f cdv A outer s H E) [] σ' H' s' → RelV v u → Q v H' → CE outer P w H s Q u s' :=
    fun {σ' H' v u} J rv q => ⟨v, H', J.os, J.bare, J.base, J.hok, rv, q⟩
  cases fl with
  | ret u =>
    obtain ⟨v, σ', H', J, rv, q⟩ := hs
    exact fin J rv q
  | next =>
    obtain ⟨σ', H', J, q⟩ := hs
    exact fin (v := V.non) (u := Value.none) J rfl q
  | brk =>
    obtain ⟨_, _, _, q⟩ := hs
    exact False.elim q
  | cont =>
    obtain ⟨_, _, _, q⟩ := hs
    exact False.elim q
theorem FunD.okG {CX : CXT} {N ps : List Str} {k : Nat} {sp : Sp} (F : FunD K x qual params body scope dvs kws f fd) (S : FnScope N ps scope) (len : ∀ vs H Q E, sp vs H Q E → vs.length = ps.length)
    (hbody : ∀ (cdv : Value) (A : Around) (outer : List PySem.Env) (s : Shared) (H : Hp) (vs : List V) (Q : VK) (E : XK), Roam k (A.deeper (envOfC qual scope s.heap.objs.size f cdv)) → sp vs H Q E →
      ∃ t, PSs (cxOf CX P w K mg base N qual scope f cdv A outer s H E) body t ∧ t { nx := fun _ H' => Q .non H', rt := Q } (L2.start N vs) H) : FnG P w K mg base CX (k + 1) f fd ps sp 
  := FunD.okGc F S len fun cdv _ _ A outer s H vs Q E hr h => hbody cdv A outer s H vs Q E hr h
end
theorem roam_caller {k : Nat} (h : Room k callerA) : Roam k callerA := ⟨h, rfl⟩
/-- the law's call -/
theorem law_callG {P : Program} {w : World} {K : PySem.W.Frag} {mg mb : Str → Option Value} {CX : CXT} {k : Nat} {fa a : Addr} {fd : FuncData} {x : Str} {sp : Sp} {s₁ : Shared} {vs : List Value} {ns : List Int}
    (KX : K.In s₁.heap) (hns : s₁.heap.Ns mainGlobals mg) (hb : s₁.heap.Ns builtinsNs mb) (hbb : ∀ x : Str, x ≠ "__name__" → mb x = bootBuiltins x) (hlim : s₁.heap.NoLimit) (hg : s₁.gens = #[])
    (ha : s₁.heap.get? a = some { cls := .type "list", data := .seq vs.toArray }) (hi : IntsAre vs ns) (hl : ns.length ≤ sizeLine) (hr : Room k callerA)
    (F : ∀ base : Heap, K.In base → base.Ns mainGlobals mg → FnG P w K mg base CX k fa fd [x] sp) (hbind : ∀ (s : Shared) (u : Value), BindsTo s fd ⟨[u], []⟩ [(x, u)])
    (hsp : ∀ H : Hp, Only H → SqL K H a (ns.map V.int) → sp [.ref a] H (fun v _ => v = .bl true) fun _ _ _ => False)
    (hCX : ∀ H e s', CX [] H s₁ (fun _ _ _ => False) e s' → False) :
    codeAny (model P w) callerA (.call (.ref fa) ⟨[.ref a], []⟩) (fun r s' => r = .ok (.ret (.bool true)) ∧ OldK s₁.heap s'.heap ∧ s'.os = s₁.os ∧ AllBare s'.gens) s₁ := by
  have go : ∀ H : Hp, Only H → SqL K H a (ns.map V.int) → HOk P w H s₁.heap → (∀ b u, H b = some u → b = a ∧ K.lookup a = none) →
      codeAny (model P w) callerA (.call (.ref fa) ⟨[.ref a], []⟩) (fun r s' => r = .ok (.ret (.bool true)) ∧ OldK s₁.heap s'.heap ∧ s'.os = s₁.os ∧ AllBare s'.gens) s₁ := fun H hO hS hok hA => by
    -- the ground: all but the script
    have gnd : ∀ {b : Addr} {o : Obj}, s₁.heap.get? b = some o → (∀ vs n, o.data ≠ .seq vs n) → (hidT s₁.heap H).get? b = some o := fun {b o} e nd => by
      refine hidT_get e ?_
      cases q : H b with
      | none => rfl
      | some u =>
        rw [(hA b u q).1, ha] at e
        exact absurd (by rw [← Option.some.inj e]) (nd vs.toArray 0)
    have gns : ∀ {b : Addr} {m : Str → Option Value}, s₁.heap.Ns b m → (hidT s₁.heap H).Ns b m := fun {b m} h => by
      obtain ⟨o, es, ep, e, d, r⟩ := h
      exact ⟨o, es, ep, gnd e (fun vs n z => by rw [d] at z; cases z), d, r⟩
    have gK : K.In (hidT s₁.heap H) := fun b o e => by
      refine hidT_get (KX b o e) ?_
      cases q : H b with
      | none => rfl
      | some u =>
        obtain ⟨z1, z2⟩ := hA b u q
        rw [z1, z2] at e
        cases e
    have gM : Mod K mg (hidT s₁.heap H) := ⟨gK, gns hns, ⟨mb, gns hb, hbb⟩, by
      obtain ⟨mc, z1, z2⟩ := hlim
      exact ⟨mc, gns z1, z2⟩⟩
    have E0 : Env0 P w K mg (hidT s₁.heap H) callerA [] s₁ H := by
      constructor
      · rfl
      · exact gM
      · exact fun b o e => of_hidT e
      · exact Nat.le_of_eq (hidT_size _ _)
      · trivial
      · intro b z
        have z' : b ∈ ([] : List Addr) := z
        simp at z'
      · exact hok
      · exact .of_eq hg
    have run := (F _ gK (gns hns)).run callerA [] s₁ H ⟨[.ref a], []⟩ [.ref a] [.ref a] (fun v _ => v = .bl true) (fun _ _ _ => False) (roam_caller hr) E0 (hbind s₁ (.ref a)) (.cons rfl .nil) (hsp H hO hS)
    refine codeAny_mono run fun r s' h => ?_
    match r, h with
    | .error e, h => exact (hCX H e s' h).elim
    | .ok (.ret u), ⟨v, H', hos, hbare, un, hok', rv, q⟩ =>
      have q' : v = .bl true := q
      subst q'
      have eu : u = Value.bool true := rv
      subst eu
      refine ⟨rfl, OldK.of_keep fun b o e => ?_, hos, hbare⟩
      rcases hO b with z | ⟨ob, xs, z⟩
      · exact un.keep b o e z (fun m => by have m' : b ∈ ([] : List Addr) := m; simp at m') (by simp)
      · have w1 := (hok b _ z).1
        have w2 := (hok' b _ (un.frzs b ob _ z)).1
        rw [e] at w1
        rw [w2, ← w1]
  have rv := vals_ints hi
  have hlen := hi.length
  cases hk : K.lookup a with
  | some o =>
    have e := KX a o hk
    rw [ha] at e
    have e' := Option.some.inj e
    refine go (fun _ => none) (fun _ => .inl rfl) (.inr ⟨o, vs.toArray, 0, hk, ?_, ?_, ?_, by rw [List.size_toArray, hlen]; exact hl, by simpa using rv⟩) (fun b u z => by cases z) fun b u z => by cases z
    all_goals rw [← e']
  | none =>
    let H : Hp := upd (fun _ => none) a (.frz { cls := .type "list", data := .seq vs.toArray } (.lst (ns.map V.int)))
    have hH : H a = some (.frz { cls := .type "list", data := .seq vs.toArray } (.lst (ns.map V.int))) := upd_same
    have hN : ∀ b, b ≠ a → H b = none := fun b z => upd_ne z
    have only : ∀ b u, H b = some u → b = a := fun b u z => by
      by_cases q : b = a
      · exact q
      · rw [hN b q] at z
        cases z
    refine go H (fun b => ?_) (.inl (.inr ⟨_, hH⟩)) (fun b u z => ?_) fun b u z => ⟨only b u z, hk⟩
    · by_cases q : b = a
      · rw [q]
        exact .inr ⟨_, _, hH⟩
      · exact .inl (hN b q)
    · have q := only b u z
      subst q
      rw [hH] at z
      cases z
      exact ⟨ha, by rw [List.length_map]; exact hl, vs, 0, rv, ha⟩
end DD
namespace DD
open PySem PySem.Spec PyProof.Rows L2
/-- what a def gives back: frozen, or fresh and owned -/
inductive RP where
  | ok (d : D) | oo (o : O) | exc (x : Exn) | fail
/-- of a def whose first argument is owned by the caller: and what became of it -/
inductive RI where
  | ok (d : D) (o : O) | oo (r : O) (o : O) | exc (x : Exn) (o : O) | fail
def OutP (K : PySem.W.Frag) (F H : Hp) (Q : VK) (E : XK) : RP → Prop
  | .ok d => ∀ F' H' v, Gr F H F' H' → Den K F' d v → Q v H'
  | .oo o => ∀ F' H' f1 v, Gr F H F' H' → OwnAt K F' H' o v f1 → f1.Nodup → (∀ a ∈ f1, F' a = none ∧ H a = none) → Q v H'
  | .exc x => ∀ F' H' c dd, Gr F H F' H' → ExAt K F' x c dd → E c dd H'
  | .fail => False
def OutI (K : PySem.W.Frag) (F H : Hp) (fp : List Addr) (v0 : V) (Q : VK) (E : XK) : RI → Prop
  | .ok d o => ∀ F' H' fp' v, Po F H fp F' H' fp' → FH F' H' → OwnAt K F' H' o v0 fp' → fp'.Nodup → (∀ a ∈ fp', F' a = none) → Den K F' d v → Q v H'
  | .oo r o => ∀ F' H' f1 fp' v, Po F H fp F' H' (f1 ++ fp') → FH F' H' → OwnAt K F' H' o v0 fp' → OwnAt K F' H' r v f1 → (f1 ++ fp').Nodup → (∀ a ∈ f1 ++ fp', F' a = none) → Q v H'
  | .exc x o => ∀ F' H' fp' c dd, Po F H fp F' H' fp' → FH F' H' → OwnAt K F' H' o v0 fp' → fp'.Nodup → (∀ a ∈ fp', F' a = none) → ExAt K F' x c dd → E c dd H'
  | .fail => False
def spP (K : PySem.W.Frag) (n : Nat) (f : List D → RP) : Sp := fun vs H Q E => vs.length = n ∧ ∃ F ds, FHK K F H ∧ Dens K F ds vs ∧ OutP K F H Q E (f ds)
def spI (K : PySem.W.Frag) (n : Nat) (f : O → List D → RI) : Sp := fun vs H Q E => vs.length = n + 1 ∧ ∃ F o ds fp v0 vr, vs = v0 :: vr ∧ FHK K F H ∧ OwnAt K F H o v0 fp ∧ fp.Nodup ∧ (∀ a ∈ fp, F a = none) ∧ Dens K F ds vr ∧ OutI K F H fp v0 Q E (f o ds)
def startE (nN : Nat) (os : List O) : DEnv := os.map some ++ List.replicate (nN - os.length) none
theorem envAt_none {K : PySem.W.Frag} {F H : Hp} (m : MkF K F) : ∀ k : Nat, EnvAt K F H (List.replicate k none) (List.replicate k none) []
  | 0 => ⟨rfl, m⟩
  | k + 1 => envAt_none m k
theorem envAt_start {K : PySem.W.Frag} {F H : Hp} (m : MkF K F) (k : Nat) : ∀ {os : List O} {vs : List V} {fp : List Addr}, OwnsAt K F H os vs fp → EnvAt K F H (vs.map some ++ List.replicate k none) (os.map some ++ List.replicate k none) fp
  | [], vs, fp, ⟨h, e⟩ => by
    subst h e
    exact envAt_none m k
  | o :: os, vs, fp, ⟨x, xs, f1, f2, r, s, h, t⟩ => by
    subst r
    exact ⟨x, f1, f2, rfl, s, h, envAt_start m k t⟩
def finP : RS → RP
  | .nx _ => .ok .non
  | .rt d _ => .ok d
  | .ro o _ => .oo o
  | .exc x _ => .exc x
  | _ => .fail
def mFun (nN n : Nat) (body : MS) : List D → RP := fun ds => if ds.length = n then finP (body (startE nN (ds.map .d))) else .fail
def finI : RS → RI
  | .nx e => (match e[0]? with
    | some (some o) => .ok .non o
    | _ => .fail)
  | .rt d e => (match e[0]? with
    | some (some o) => .ok d o
    | _ => .fail)
  | .ro r e => (match e[0]? with
    | some (some o) => .oo r o
    | _ => .fail)
  | .exc x e => (match e[0]? with
    | some (some o) => .exc x o
    | _ => .fail)
  | _ => .fail
def mFunI (nN n : Nat) (body : MS) : O → List D → RI := fun o ds => if ds.length = n then finI (body (startE nN (o :: ds.map .d))) else .fail
section
variable {P : Program} {w : World} {K : PySem.W.Frag} {mg : Str → Option Value} {base : Heap} {x qual : Str} {params : Arguments} {body : List Stmt} {scope : Scope} {f : Addr} {fd : FuncData} {N ps : List Str} {k : Nat} {m : MS}
theorem fnG_pure (F : FunD K x qual params body scope [] [] f fd) (S : FnScope N ps scope)
    (hbody : ∀ (cdv : Value) (A : Around) (outer : List PySem.Env) (s : Shared) (H : Hp) (E : XK), Roam k (A.deeper (envOfC qual scope s.heap.objs.size f cdv)) →
      Takes (cxOf (L2.CX P w) P w K mg base N qual scope f cdv A outer s H E) (fun c d _ H' => E c d H') → PassesOwn (model P w) (cxOf (L2.CX P w) P w K mg base N qual scope f cdv A outer s H E).A (cxOf (L2.CX P w) P w K mg base N qual scope f cdv A outer s H E).env (cxOf (L2.CX P w) P w K mg base N qual scope f cdv A outer s H E).xe →
      ∃ t, PDB (cxOf (L2.CX P w) P w K mg base N qual scope f cdv A outer s H E) (fun c d _ H' => E c d H') [] body t m) : FnG P w K mg base (L2.CX P w) (k + 1) f fd ps (spP K ps.length (mFun N.length ps.length m)) := by
  refine FunD.okG F S (fun vs H Q E h => h.1) fun cdv A outer s H vs Q E hr hsp => ?_
  obtain ⟨t, B⟩ := hbody cdv A outer s H E hr (takes_of rfl rfl rfl rfl) (passes_of rfl)
  refine ⟨t, B.ps, ?_⟩
  obtain ⟨hl, F0, ds, hF, hd, ho⟩ := hsp
  have hdl := Dens.length hd
  have R : Rel K F0 H (L2.start N vs) (startE N.length (ds.map .d)) [] := by
    refine ⟨hF.toFH, ?_, List.nodup_nil, fun a ha => by cases ha⟩
    have q := envAt_start hF.mks (N.length - vs.length) (owns_map (F := F0) (H := H) hd)
    unfold L2.start startE
    rw [List.length_map, hdl]
    exact q
  refine B.sn F0 H _ _ [] _ R ?_
  have ho' : OutP K F0 H Q E (finP (m (startE N.length (ds.map .d)))) := by
    unfold mFun at ho
    rw [if_pos (by rw [hdl]; exact hl)] at ho
    exact ho
  have gr : ∀ {F' H' : Hp} {σ' : L2.St} {e : DEnv} {fp' : List Addr}, Po F0 H [] F' H' fp' → FH F' H' → Gr F0 H F' H' := fun {F' H' σ' e fp'} P e => ⟨P.f, fun a o h => P.keep a o h (by simp), e, fun a o h1 h2 => P.out a o h1 h2 (by simp)⟩
  cases hr : m (startE N.length (ds.map .d)) with
  | nx e =>
    rw [hr] at ho'
    exact fun F' H' σ' fp' P _ R' => ho' F' H' .non (gr (σ' := σ') (e := e) P R'.ex) rfl
  | rt d e =>
    rw [hr] at ho'
    exact fun F' H' σ' fp' v P _ R' d' => ho' F' H' v (gr (σ' := σ') (e := e) P R'.ex) d'
  | ro o e =>
    rw [hr] at ho'
    refine fun F' H' σ' f1 f2 v P _ R' => ho' F' H' f1 v (gr (σ' := σ') (e := e) P R'.ex) R'.own (List.nodup_append.mp R'.nd).1 fun a ha => ⟨R'.out a (List.mem_append_left _ ha), ?_⟩
    rcases P.fresh a (List.mem_append_left _ ha) with z | z
    · cases z
    · exact z
  | bk e =>
    rw [hr] at ho'
    exact ho'.elim
  | ct e =>
    rw [hr] at ho'
    exact ho'.elim
  | exc y e =>
    rw [hr] at ho'
    exact fun F' H' σ' fp' c dd P _ R' z => ho' F' H' c dd (gr (σ' := σ') (e := e) P R'.ex) z
  | fail =>
    rw [hr] at ho'
    exact ho'.elim
theorem fn_pure (F : FunD K x qual params body scope [] [] f fd) (S : FnScope N ps scope) (hb : Binds K fd ps [])
    (hbody : ∀ (cdv : Value) (A : Around) (outer : List PySem.Env) (s : Shared) (H : Hp) (E : XK), Roam k (A.deeper (envOfC qual scope s.heap.objs.size f cdv)) →
      Takes (cxOf (L2.CX P w) P w K mg base N qual scope f cdv A outer s H E) (fun c d _ H' => E c d H') → PassesOwn (model P w) (cxOf (L2.CX P w) P w K mg base N qual scope f cdv A outer s H E).A (cxOf (L2.CX P w) P w K mg base N qual scope f cdv A outer s H E).env (cxOf (L2.CX P w) P w K mg base N qual scope f cdv A outer s H E).xe →
      ∃ t, PDB (cxOf (L2.CX P w) P w K mg base N qual scope f cdv A outer s H E) (fun c d _ H' => E c d H') [] body t m) : FnD P w K mg base (k + 1) f (spP K ps.length (mFun N.length ps.length m)) :=
  ⟨fd, ps, F.kp, hb, fnG_pure F S hbody⟩
theorem fn_ioC {p0 : Str} {pr : List Str} (F : FunD K x qual params body scope [] [] f fd) (S : FnScope N (p0 :: pr) scope) (hb : Binds K fd (p0 :: pr) [])
    (hbody : ∀ (cdv : Value), PySem.W.codeIn K cdv qual = true → fd.code = cdv → ∀ (A : Around) (outer : List PySem.Env) (s : Shared) (H : Hp) (E : XK), Roam k (A.deeper (envOfC qual scope s.heap.objs.size f cdv)) →
      Takes (cxOf (L2.CX P w) P w K mg base N qual scope f cdv A outer s H E) (fun c d _ H' => E c d H') → PassesOwn (model P w) (cxOf (L2.CX P w) P w K mg base N qual scope f cdv A outer s H E).A (cxOf (L2.CX P w) P w K mg base N qual scope f cdv A outer s H E).env (cxOf (L2.CX P w) P w K mg base N qual scope f cdv A outer s H E).xe →
      ∃ t, PDB (cxOf (L2.CX P w) P w K mg base N qual scope f cdv A outer s H E) (fun c d _ H' => E c d H') [0] body t m) : FnD P w K mg base (k + 1) f (spI K pr.length (mFunI N.length pr.length m)) := by
  refine ⟨fd, p0 :: pr, F.kp, hb, FunD.okGc F S (fun vs H Q E h => h.1) fun cdv hc1 hc2 A outer s H vs Q E hr hsp => ?_⟩
  obtain ⟨t, B⟩ := hbody cdv hc1 hc2 A outer s H E hr (takes_of rfl rfl rfl rfl) (passes_of rfl)
  refine ⟨t, B.ps, ?_⟩
  obtain ⟨hl, F0, o, ds, fp, v0, vr, rfl, hF, how, hnd, hout, hd, ho⟩ := hsp
  have hdl := Dens.length hd
  have R : Rel K F0 H (L2.start N (v0 :: vr)) (startE N.length (o :: ds.map .d)) fp := by
    refine ⟨hF.toFH, ?_, hnd, hout⟩
    have q := envAt_start hF.mks (N.length - (v0 :: vr).length) (os := o :: ds.map .d) (vs := v0 :: vr) (fp := fp) (K := K) (F := F0) (H := H) ⟨v0, vr, fp, [], rfl, by simp, how, owns_map hd⟩
    have e : (o :: ds.map O.d).length = (v0 :: vr).length := by simp [hdl]
    unfold L2.start startE
    rw [e]
    exact q
  refine B.sn F0 H _ _ fp _ R ?_
  have ho' : OutI K F0 H fp v0 Q E (finI (m (startE N.length (o :: ds.map .d)))) := by
    unfold mFunI at ho
    rw [if_pos (by rw [hdl]; simpa using hl)] at ho
    exact ho
  have s0 : (L2.start N (v0 :: vr))[0]? = some (some v0) := rfl
  -- the owned argument at the end
  have fin : ∀ {F' H' : Hp} {σ' : L2.St} {e : DEnv} {fp' : List Addr} {o' : O}, Fx [0] (L2.start N (v0 :: vr)) σ' → EnvAt K F' H' σ' e fp' → e[0]? = some (some o') → ∃ f0 fr, fp'.Perm (f0 ++ fr) ∧ OwnAt K F' H' o' v0 f0 := fun {F' H' σ' e fp' o'} x h he => by
    obtain ⟨f0, fr, p, g, _⟩ := h.at_ 0 (List.getElem?_eq_some_iff.mp he).1
    obtain ⟨v, e1, own⟩ := g o' he
    have e2 : σ'[0]? = some (some v0) := (x 0 (by simp)).trans s0
    rw [e1] at e2
    have e3 : v = v0 := Option.some.inj (Option.some.inj e2)
    exact ⟨f0, fr, p, e3 ▸ own⟩
  have sub : ∀ {F' H' : Hp} {fp' f0 fr : List Addr}, Po F0 H fp F' H' fp' → fp'.Perm (f0 ++ fr) → Po F0 H fp F' H' f0 := fun {F' H' fp' f0 fr} P p => ⟨P.f, P.keep, fun a ha => P.fresh a (p.symm.subset (List.mem_append_left _ ha)), P.out⟩
  cases hr : m (startE N.length (o :: ds.map .d)) with
  | nx e =>
    rw [hr] at ho'
    intro F' H' σ' fp' P x R'
    cases he : e[0]? with
    | none => rw [finI, he] at ho'; exact ho'.elim
    | some q =>
      cases q with
      | none => rw [finI, he] at ho'; exact ho'.elim
      | some o' =>
        rw [finI, he] at ho'
        obtain ⟨f0, fr, p, own⟩ := fin x R'.at_ he
        exact ho' F' H' f0 .non (sub P p) R'.ex own (List.nodup_append.mp (p.nodup_iff.mp R'.nd)).1 (fun a ha => R'.out a (p.symm.subset (List.mem_append_left _ ha))) rfl
  | rt d e =>
    rw [hr] at ho'
    intro F' H' σ' fp' v P x R' d'
    cases he : e[0]? with
    | none => rw [finI, he] at ho'; exact ho'.elim
    | some q =>
      cases q with
      | none => rw [finI, he] at ho'; exact ho'.elim
      | some o' =>
        rw [finI, he] at ho'
        obtain ⟨f0, fr, p, own⟩ := fin x R'.at_ he
        exact ho' F' H' f0 v (sub P p) R'.ex own (List.nodup_append.mp (p.nodup_iff.mp R'.nd)).1 (fun a ha => R'.out a (p.symm.subset (List.mem_append_left _ ha))) d'
  | ro r e =>
    rw [hr] at ho'
    intro F' H' σ' f1 f2 v P x R'
    cases he : e[0]? with
    | none => rw [finI, he] at ho'; exact ho'.elim
    | some q =>
      cases q with
      | none => rw [finI, he] at ho'; exact ho'.elim
      | some o' =>
        rw [finI, he] at ho'
        obtain ⟨f0, fr, p, own⟩ := fin x R'.at_ he
        have nd : (f1 ++ (f0 ++ fr)).Nodup := (List.Perm.append_left f1 p).nodup_iff.mp R'.nd
        have m1 : ∀ a ∈ f1 ++ f0, a ∈ f1 ++ f2 := fun a ha => by
          rcases List.mem_append.mp ha with z | z
          · exact List.mem_append_left _ z
          · exact List.mem_append_right _ (p.symm.subset (List.mem_append_left _ z))
        refine ho' F' H' f1 f0 v ⟨P.f, P.keep, fun a ha => P.fresh a (m1 a ha), P.out⟩ R'.ex own R'.own ?_ fun a ha => R'.out a (m1 a ha)
        rw [← List.append_assoc] at nd
        exact (List.nodup_append.mp nd).1
  | bk e =>
    rw [hr] at ho'
    exact ho'.elim
  | ct e =>
    rw [hr] at ho'
    exact ho'.elim
  | exc y e =>
    rw [hr] at ho'
    intro F' H' σ' fp' c dd P x R' z
    cases he : e[0]? with
    | none => rw [finI, he] at ho'; exact ho'.elim
    | some q =>
      cases q with
      | none => rw [finI, he] at ho'; exact ho'.elim
      | some o' =>
        rw [finI, he] at ho'
        obtain ⟨f0, fr, p, own⟩ := fin x R'.at_ he
        exact ho' F' H' f0 c dd (sub P p) R'.ex own (List.nodup_append.mp (p.nodup_iff.mp R'.nd)).1 (fun a ha => R'.out a (p.symm.subset (List.mem_append_left _ ha))) z
  | fail =>
    rw [hr] at ho'
    exact ho'.elim
theorem fn_io {p0 : Str} {pr : List Str} (F : FunD K x qual params body scope [] [] f fd) (S : FnScope N (p0 :: pr) scope) (hb : Binds K fd (p0 :: pr) [])
    (hbody : ∀ (cdv : Value) (A : Around) (outer : List PySem.Env) (s : Shared) (H : Hp) (E : XK), Roam k (A.deeper (envOfC qual scope s.heap.objs.size f cdv)) →
      Takes (cxOf (L2.CX P w) P w K mg base N qual scope f cdv A outer s H E) (fun c d _ H' => E c d H') → PassesOwn (model P w) (cxOf (L2.CX P w) P w K mg base N qual scope f cdv A outer s H E).A (cxOf (L2.CX P w) P w K mg base N qual scope f cdv A outer s H E).env (cxOf (L2.CX P w) P w K mg base N qual scope f cdv A outer s H E).xe →
      ∃ t, PDB (cxOf (L2.CX P w) P w K mg base N qual scope f cdv A outer s H E) (fun c d _ H' => E c d H') [0] body t m) : FnD P w K mg base (k + 1) f (spI K pr.length (mFunI N.length pr.length m)) := fn_ioC F S hb fun cdv _ _ A outer s H E hr tk ps => hbody cdv A outer s H E hr tk ps
end
def mCall (f : List D → RP) (m : MA) : MD := fun env => (m env).bind fun ds e => match f ds with
  | .ok d => .ok d e
  | .exc x => .exc x e
  | _ => .fail
def mCallO (f : List D → RP) (m : MA) : MO := fun env => (m env).bind fun ds e => match f ds with
  | .oo o => .ok o e
  | .exc x => .exc x e
  | _ => .fail
/-- the owned thing in slot i goes in -/
def mCallI (i : Nat) (f : O → List D → RI) (m : MA) : MD := fun env => match env[i]? with
  | some (some _) => (m env).bind fun ds e => (match e[i]? with
    | some (some o) => (match f o ds with
      | .ok d o' => .ok d (e.set i (some o'))
      | .exc x o' => .exc x (e.set i (some o'))
      | _ => .fail)
    | _ => .fail)
  | _ => .fail
section
variable {K : PySem.W.Frag} {W : WX} {t : TA} {m : MA} {n : Nat}
theorem sn_call {f : List D → RP} (h : Sn K W (Dens K) emp t m) (hn : ∀ ds env e, m env = .ok ds e → ds.length = n) : Sn K W (Den K) emp (tCallS (spP K n f) (WE W) t) (mCall f m) := by
  intro F H σ env fp Q _ R hq
  unfold mCall at hq
  refine h F H σ env fp _ ex_emp R ?_
  have hn' := hn
  cases hm : m env with
  | fail =>
    rw [hm] at hq
    exact hq
  | exc x e =>
    rw [hm] at hq
    exact hq
  | ok ds e =>
    rw [hm] at hq
    intro F1 H1 fp1 vs P1 R1 d1
    have h1 := Out.step P1 hq
    rw [Rs.bind_ok] at h1
    refine ⟨by rw [← Dens.length d1]; exact hn _ _ _ hm, F1, ds, R1.exk, d1, ?_⟩
    cases hf : f ds with
    | ok d =>
      rw [hf] at h1
      exact fun F' H' v g dd => h1 F' H' fp1 v g.po (R1.grow g) dd
    | exc x =>
      rw [hf] at h1
      exact fun F' H' c dd g z => h1 F' H' fp1 c dd g.po (R1.grow g) z
    | oo o =>
      rw [hf] at h1
      exact h1.elim
    | fail =>
      rw [hf] at h1
      exact h1.elim
theorem sno_call {f : List D → RP} (h : Sn K W (Dens K) emp t m) (hn : ∀ ds env e, m env = .ok ds e → ds.length = n) : SnO K W (tCallS (spP K n f) (WE W) t) (mCallO f m) := by
  intro F H σ env fp Q R hq
  unfold mCallO at hq
  refine h F H σ env fp _ ex_emp R ?_
  cases hm : m env with
  | fail =>
    rw [hm] at hq
    exact hq
  | exc x e =>
    rw [hm] at hq
    exact hq
  | ok ds e =>
    rw [hm] at hq
    intro F1 H1 fp1 vs P1 R1 d1
    have h1 := OutO.step P1 hq
    rw [Rs.bind_ok] at h1
    refine ⟨by rw [← Dens.length d1]; exact hn _ _ _ hm, F1, ds, R1.exk, d1, ?_⟩
    cases hf : f ds with
    | ok d =>
      rw [hf] at h1
      exact h1.elim
    | exc x =>
      rw [hf] at h1
      exact fun F' H' c dd g z => h1 F' H' fp1 c dd g.po (R1.grow g) z
    | oo o =>
      rw [hf] at h1
      intro F' H' f1 v g own nd ho
      have R2 := R1.grow g
      have dom : ∀ a ∈ fp1, a ∉ f1 := fun a ha hb => by
        obtain ⟨u, hu⟩ := R1.at_.dom a ha
        have hu := hu.e
        rw [(ho a hb).2] at hu
        cases hu
      refine h1 F' H' f1 fp1 v ⟨g.f, fun a u h _ => g.h a u h, fun a ha => ?_, fun a u e1 e2 _ => g.out a u e1 e2⟩ ⟨R2.ex, R2.at_, own, List.nodup_append.mpr ⟨nd, R2.nd, fun a ha b hb e => dom b hb (e ▸ ha)⟩, fun a ha => ?_⟩
      · rcases List.mem_append.mp ha with z | z
        · exact .inr (ho a z).2
        · exact .inl z
      · rcases List.mem_append.mp ha with z | z
        · exact (ho a z).1
        · exact R2.out a z
    | fail =>
      rw [hf] at h1
      exact h1.elim
theorem sn_callI {i : Nat} {f : O → List D → RI} (h : Sn K W (Dens K) emp t m) (hn : ∀ ds env e, m env = .ok ds e → ds.length = n) : Sn K W (Den K) emp (tCallS (spI K n f) (WE W) (tCons (tVar i) t)) (mCallI i f m) := by
  intro F H σ env fp Q _ R hq
  unfold mCallI at hq
  split at hq
  case h_2 => exact hq.elim
  rename_i o0 e0
  obtain ⟨v0, _, _, s0, _⟩ := R.split e0
  refine ⟨v0, s0, ?_⟩
  refine h F H σ env fp _ ex_emp R ?_
  cases hm : m env with
  | fail =>
    rw [hm] at hq
    exact hq
  | exc x e =>
    rw [hm] at hq
    exact hq
  | ok ds e =>
    rw [hm] at hq
    intro F1 H1 fp1 vs P1 R1 d1
    have h1 := Out.step P1 hq
    rw [Rs.bind_ok] at h1
    split at h1
    case h_2 => exact h1.elim
    rename_i o e1
    obtain ⟨v, f0, fr, s1, own, nd, out0, _, back, _⟩ := R1.split e1
    rw [s0] at s1
    have ev : v0 = v := Option.some.inj (Option.some.inj s1)
    subst ev
    refine ⟨by rw [List.length_cons, ← Dens.length d1, hn _ _ _ hm], F1, o, ds, f0, v0, vs, rfl, R1.exk, own, nd, out0, d1, ?_⟩
    cases hf : f o ds with
    | ok d o' =>
      rw [hf] at h1
      intro F' H' fp' v P ex own' ndn out' dd
      obtain ⟨fp2, R2, P2⟩ := back F' H' o' fp' P ex own' ndn out'
      exact h1 F' H' fp2 v P2 R2 dd
    | oo r o' =>
      rw [hf] at h1
      exact h1.elim
    | exc x o' =>
      rw [hf] at h1
      intro F' H' fp' c dd P ex own' ndn out' z
      obtain ⟨fp2, R2, P2⟩ := back F' H' o' fp' P ex own' ndn out'
      exact h1 F' H' fp2 c dd P2 R2 z
    | fail =>
      rw [hf] at h1
      exact h1.elim
end
/-- how many come from an argument list without a star -/
def ArgN (n : Nat) (m : MA) : Prop := ∀ ds env e, m env = .ok ds e → ds.length = n
theorem argN_nil : ArgN 0 mNil := fun ds env e h => by
  cases h
  rfl
theorem argN_cons {n : Nat} {a : MD} {m : MA} (h : ArgN n m) : ArgN (n + 1) (mCons a m) := fun ds env e hq => by
  unfold mCons at hq
  cases ha : a env with
  | fail => rw [ha] at hq; cases hq
  | exc x e1 => rw [ha] at hq; cases hq
  | ok d e1 =>
    rw [ha, Rs.bind_ok] at hq
    cases hm : m e1 with
    | fail => rw [hm] at hq; cases hq
    | exc x e2 => rw [hm] at hq; cases hq
    | ok xs e2 =>
      rw [hm, Rs.bind_ok] at hq
      cases hq
      rw [List.length_cons, h xs e1 _ hm]
/-- the def that the module's name x stands for -/
structure DefP (P : Program) (w : World) (K : PySem.W.Frag) (mg : Str → Option Value) (base : Heap) (k : Nat) (x : Str) (n : Nat) (f : List D → RP) : Prop where
  ex : ∃ g, mg x = some (.ref g) ∧ FnD P w K mg base k g (spP K n f)
structure DefI (P : Program) (w : World) (K : PySem.W.Frag) (mg : Str → Option Value) (base : Heap) (k : Nat) (x : Str) (n : Nat) (f : O → List D → RI) : Prop where
  ex : ∃ g, mg x = some (.ref g) ∧ FnD P w K mg base k g (spI K n f)
section
variable {X : Cx} {W : WX} {k n : Nat} {x : Str} {p pos : Pos} {e : Expr} {es : List Expr} {t : TA} {m : MA}
theorem pd_call {f : List D → RP} (G : DefP X.prog X.w X.K X.mg X.base k x n f) (hr : Roam k X.A) (hg : Gl X x) (tk : Takes X W) (hn : ArgN n m) (ha : PDA X W (e :: es) t m) (hdb : (x == ("__debug__" : Str)) = false := by decide)
    (he : starEach (e :: es) X.env = (false, eval e X.env) :: starEach es X.env := by rfl) (hpl : (backTo pos (starEach es X.env)).any (·.1) = false := by rfl) : PD X W (.Call (.Name x p) (e :: es) [] pos) (tCallS (spP X.K n f) (WE W) t) (mCall f m) := by
  obtain ⟨g, hm, fd, ps, kp, b, F⟩ := G.ex
  exact ⟨pe_callG F hr hg hm kp b (fun σ => passAt tk σ) ha.pa hdb he hpl, sn_call ha.sn hn⟩
theorem pdo_call {f : List D → RP} (G : DefP X.prog X.w X.K X.mg X.base k x n f) (hr : Roam k X.A) (hg : Gl X x) (tk : Takes X W) (hn : ArgN n m) (ha : PDA X W (e :: es) t m) (hdb : (x == ("__debug__" : Str)) = false := by decide)
    (he : starEach (e :: es) X.env = (false, eval e X.env) :: starEach es X.env := by rfl) (hpl : (backTo pos (starEach es X.env)).any (·.1) = false := by rfl) : PDO X W (.Call (.Name x p) (e :: es) [] pos) (tCallS (spP X.K n f) (WE W) t) (mCallO f m) := by
  obtain ⟨g, hm, fd, ps, kp, b, F⟩ := G.ex
  exact ⟨pe_callG F hr hg hm kp b (fun σ => passAt tk σ) ha.pa hdb he hpl, sno_call ha.sn hn⟩
theorem pd_callI {i : Nat} {y : Str} {py : Pos} {f : O → List D → RI} (G : DefI X.prog X.w X.K X.mg X.base k x n f) (hr : Roam k X.A) (hg : Gl X x) (tk : Takes X W) (hy : PE X (.Name y py) (tVar i)) (hn : ArgN n m) (ha : PDA X W es t m) (hdb : (x == ("__debug__" : Str)) = false := by decide)
    (he : starEach (.Name y py :: es) X.env = (false, eval (.Name y py) X.env) :: starEach es X.env := by rfl) (hpl : (backTo pos (starEach es X.env)).any (·.1) = false := by rfl) : PD X W (.Call (.Name x p) (.Name y py :: es) [] pos) (tCallS (spI X.K n f) (WE W) (tCons (tVar i) t)) (mCallI i f m) := by
  obtain ⟨g, hm, fd, ps, kp, b, F⟩ := G.ex
  exact ⟨pe_callG F hr hg hm kp b (fun σ => passAt tk σ) (pa_cons hy ha.pa he) hdb he hpl, sn_callI ha.sn hn⟩
end
end DD
namespace DD
open PySem PySem.Spec PyProof.Rows L2
theorem OpR.or {X : Cx} {f : Value → Value → Sem Value} {r1 r2 : R2} (h1 : OpR X f r1) (h2 : OpR X f r2) : OpR X f (fun x y H Q => r1 x y H Q ∨ r2 x y H Q) := by
  intro pins s σ H x y v u Q I rx ry h
  rcases h with h | h
  · exact h1 pins s σ H x y v u Q I rx ry h
  · exact h2 pins s σ H x y v u Q I rx ry h
theorem CallR.or {X : Cx} {f : Value} {r1 r2 : List V → Hp → VK → Prop} (h1 : CallR X f r1) (h2 : CallR X f r2) : CallR X f (fun xs H Q => r1 xs H Q ∨ r2 xs H Q) := by
  intro pins s σ H xs us Q I r h
  rcases h with h | h
  · exact h1 pins s σ H xs us Q I r h
  · exact h2 pins s σ H xs us Q I r h
theorem IxR.or {X : Cx} {r1 r2 : R2} (h1 : IxR X r1) (h2 : IxR X r2) : IxR X (fun x y H Q => r1 x y H Q ∨ r2 x y H Q) := by
  intro value slice pins s σ H x y v u Q I rx ry h hs
  rcases h with h | h
  · exact h1 value slice pins s σ H x y v u Q I rx ry h hs
  · exact h2 value slice pins s σ H x y v u Q I rx ry h hs
mutual
def toPy : D → Option PyData
  | .non => some .none
  | .bl b => some (.bool b)
  | .int i => some (.int i)
  | .str s => some (.str s)
  | .tup ds => (toPys ds).map .tuple
  | .lst ds => (toPys ds).map .list
  | .wtp ds => (toPys ds).map .tuple
  | _ => none
def toPys : List D → Option (List PyData)
  | [] => some []
  | d :: ds => (toPy d).bind fun x => (toPys ds).map fun xs => x :: xs
end
mutual
theorem toPy_dp {K : PySem.W.Frag} {F H : Hp} (e : FH F H) : ∀ (d : D) (v : V) (p : PyData), Den K F d v → toPy d = some p → Dp K H v p
  | .non, v, p, h, q => by
    have h' : v = .non := h
    cases q
    rw [h']
    exact .non
  | .bl b, v, p, h, q => by
    have h' : v = .bl b := h
    cases q
    rw [h']
    exact .bl b
  | .int i, v, p, h, q => by
    have h' : v = .int i := h
    cases q
    rw [h']
    exact .int i
  | .str s, v, p, h, q => by
    have h' : v = .str s := h
    cases q
    rw [h']
    exact .str s
  | .tup ds, v, p, ⟨a, o, vs, h1, h2, _, h3⟩, q => by
    obtain ⟨ps, q1, q2⟩ := Option.map_eq_some_iff.mp q
    rw [h1, ← q2]
    exact .tup (.inl (.inr ⟨o, e.at_ _ _ h2 rfl⟩)) (toPys_dp e ds vs ps h3 q1)
  | .lst ds, v, p, ⟨a, vs, h1, h2, h3⟩, q => by
    obtain ⟨ps, q1, q2⟩ := Option.map_eq_some_iff.mp q
    rw [h1, ← q2]
    exact .lst (.inl (e.rd h2)) (toPys_dp e ds vs ps h3 q1)
  | .wtp ds, v, p, ⟨a, vs, h1, h2, h3⟩, q => by
    obtain ⟨ps, q1, q2⟩ := Option.map_eq_some_iff.mp q
    rw [h1, ← q2]
    exact .tup (.inl (.inl (e.at_ _ _ h2 rfl))) (toPys_dp e ds vs ps h3 q1)
  | .dct ks ds, v, p, h, q => by cases q
  | .dtt ks ds, v, p, h, q => by cases q
  | .ins C ns ds, v, p, h, q => by cases q
  | .exn C ns ds, v, p, h, q => by cases q
  | .scr ns, v, p, h, q => by cases q
theorem toPys_dp {K : PySem.W.Frag} {F H : Hp} (e : FH F H) : ∀ (ds : List D) (vs : List V) (ps : List PyData), Dens K F ds vs → toPys ds = some ps → DpAll K H vs ps
  | [], vs, ps, h, q => by
    have h' : vs = [] := h
    cases q
    rw [h']
    exact .nil
  | d :: ds, vs, ps, ⟨x, xs, h1, h2, h3⟩, q => by
    obtain ⟨p, q1, q2⟩ := Option.bind_eq_some_iff.mp q
    obtain ⟨ps', q3, q4⟩ := Option.map_eq_some_iff.mp q2
    rw [h1, ← q4]
    exact .cons (toPy_dp e d x p h2 q1) (toPys_dp e ds xs ps' h3 q3)
end
/-- a value goes out as it is -/
theorem gr_val {K : PySem.W.Frag} {F H : Hp} {z : D} {v : V} {Q : VK} (e : FH F H) (h : Den K F z v) (k : ∀ F' H' c, Gr F H F' H' → Den K F' z c → Q c H') : Q v H := k F H v (Gr.refl e) h
def opI (g : Int → Int → D) : D → D → Option D
  | .int i, .int j => some (g i j)
  | _, _ => none
def opIc (c : Int → Int → Bool) (g : Int → Int → D) : D → D → Option D
  | .int i, .int j => if c i j = true then some (g i j) else none
  | _, _ => none
theorem opd_I {K : PySem.W.Frag} {g : Int → Int → D} {gv : Int → Int → V} (hg : ∀ F i j, Den K F (g i j) (gv i j)) : OpD K (rI0 gv) (opI g) := by
  intro F H x y a b z e hx hy hz Q k
  cases x <;> first | (cases hz; done) | skip
  cases y <;> first | (cases hz; done) | skip
  cases hz
  exact ⟨_, _, hx, hy, gr_val e (hg F _ _) k⟩
theorem opd_Ic {K : PySem.W.Frag} {c : Int → Int → Bool} {C : Int → Int → Prop} {g : Int → Int → D} {gv : Int → Int → V} (hc : ∀ i j, c i j = true → C i j) (hg : ∀ F i j, Den K F (g i j) (gv i j)) : OpD K (rI C gv) (opIc c g) := by
  intro F H x y a b z e hx hy hz Q k
  cases x <;> first | (cases hz; done) | skip
  cases y <;> first | (cases hz; done) | skip
  rename_i i j
  have hz' : (if c i j = true then some (g i j) else none) = some z := hz
  by_cases h : c i j = true
  · rw [if_pos h] at hz'
    cases hz'
    exact ⟨i, j, hx, hy, hc i j h, gr_val e (hg F _ _) k⟩
  · rw [if_neg h] at hz'
    cases hz'
def mulD : D → D → Option D := opIc (fun i j => (decide (-(2 ^ 64) < i) && decide (i < 2 ^ 64)) || (decide (-(2 ^ 64) < j) && decide (j < 2 ^ 64))) fun i j => .int (i * j)
def divD : D → D → Option D := opIc (fun i j => decide (0 < j) && decide (j < 1073741824)) fun i j => .int (i / j)
def modD : D → D → Option D := opIc (fun i j => decide (0 < j)) fun i j => .int (i % j)
def powD : D → D → Option D := opIc (fun i j => decide (0 ≤ j) && decide (j ≤ 1000000) && decide (i.natAbs < 2 ^ 64)) fun i j => .int (i ^ j.toNat)
def ltD : D → D → Option D := opI fun i j => .bl (decide (i < j))
def leD : D → D → Option D := opI fun i j => .bl (decide (i ≤ j))
def gtD : D → D → Option D := opI fun i j => .bl (decide (j < i))
def geD : D → D → Option D := opI fun i j => .bl (decide (j ≤ i))
section
variable {K : PySem.W.Frag}
theorem opd_mul : OpD K (rI CMul fun i j => .int (i * j)) mulD := opd_Ic (fun i j h => by
  simp only [Bool.or_eq_true, Bool.and_eq_true, decide_eq_true_eq] at h
  exact h) fun _ _ _ => rfl
theorem opd_div : OpD K (rI CDiv fun i j => .int (i / j)) divD := opd_Ic (fun i j h => by
  simp only [Bool.and_eq_true, decide_eq_true_eq] at h
  exact h) fun _ _ _ => rfl
theorem opd_mod : OpD K (rI (fun _ j => 0 < j) fun i j => .int (i % j)) modD := opd_Ic (fun i j h => by simpa using h) fun _ _ _ => rfl
theorem opd_pow : OpD K (rI CPow fun i j => .int (i ^ j.toNat)) powD := opd_Ic (fun i j h => by
  simp only [Bool.and_eq_true, decide_eq_true_eq] at h
  exact ⟨h.1.1, h.1.2, h.2⟩) fun _ _ _ => rfl
theorem opd_lt : OpD K (rI0 fun i j => .bl (decide (i < j))) ltD := opd_I fun _ _ _ => rfl
theorem opd_gt : OpD K (rI0 fun i j => .bl (decide (j < i))) gtD := opd_I fun _ _ _ => rfl
theorem opd_ge : OpD K (rI0 fun i j => .bl (decide (j ≤ i))) geD := opd_I fun _ _ _ => rfl
def negD : D → Option D
  | .int i => some (.int (-i))
  | _ => none
theorem und_neg : UnD K (rU fun i => .int (-i)) negD := by
  intro F H x a z e hx hz Q k
  cases x <;> first | (cases hz; done) | skip
  cases hz
  exact ⟨_, hx, gr_val (z := .int (-_)) e rfl k⟩
def rCatE (K : PySem.W.Frag) : R2 := fun x y H Q => ∃ a b xs ys, x = .ref a ∧ y = .ref b ∧ SqT K H a xs ∧ SqT K H b ys ∧ xs.length + ys.length ≤ sizeLine ∧
  (xs = [] → Q (.ref b) H) ∧ (xs ≠ [] → ys = [] → Q (.ref a) H) ∧ (xs ≠ [] → ys ≠ [] → ∀ p o, H p = none → o.dict = none → Q (.ref p) (upd H p (.frz o (.tup (xs ++ ys)))))
theorem op_catE {X : Cx} : OpR X (binaryOp .Add) (rCatE X.K) := by
  intro pins s σ H x y v u Q I rx ry h
  obtain ⟨a, b, xs, ys, rfl, rfl, ha, hb, hz, q0, q1, q2⟩ := h
  cases rx
  cases ry
  obtain ⟨its, r1, p1, _⟩ := I.tuple ha
  obtain ⟨its2, r2, p2, _⟩ := I.tuple hb
  by_cases hx : xs = []
  · subst hx
    cases r1
    exact cat_tup0 p1 p2 ⟨.ref b, H, I, rfl, q0 rfl⟩
  · refine HT.cat_tup p1 p2 (fun z => hx (Vals.nil_iff r1 |>.mp z)) (fun z => ⟨.ref a, H, I, rfl, q1 hx (Vals.nil_iff r2 |>.mp z)⟩) (fun z => ?_) (by rw [← r1.length, ← r2.length]; exact hz)
    have hp := Heap.get?_push_size s.heap (o := { cls := .type "tuple", data := .seq (its ++ its2).toArray }) rfl
    have J := I.laid (t' := s.toks) (o := .frz { cls := .type "tuple", data := .seq (its ++ its2).toArray } (.tup (xs ++ ys))) (fun b u e => Heap.get?_push_of_some _ e) (Nat.le_refl _) ⟨hp, by rw [List.length_append]; exact hz, its ++ its2, r1.append r2, ⟨_, hp, rfl, _, rfl⟩⟩
    exact ⟨.ref _, _, J, rfl, q2 hx (fun w => z (Vals.nil_iff r2 |>.mpr w)) _ _ (I.hok.fresh (Nat.le_refl _)) rfl⟩
def rCatL : R2 := fun x y H Q => ∃ l b xs zs, x = .ref l ∧ y = .ref b ∧ Rd H l (.lst xs) ∧ Rd H b (.lst zs) ∧ xs.length + zs.length ≤ sizeLine ∧ ∀ p, H p = none → Q (.ref p) (upd H p (.lst (xs ++ zs)))
theorem op_catL {X : Cx} : OpR X (binaryOp .Add) rCatL := by
  intro pins s σ H x y v u Q I rx ry h
  obtain ⟨l, b, xs, zs, rfl, rfl, hH, hB, hz, q⟩ := h
  cases rx
  cases ry
  obtain ⟨_, its, n, r, e⟩ := hH.ok I.hok
  obtain ⟨_, its2, n2, r2, e2⟩ := hB.ok I.hok
  have l1 := r.length
  have l2 := r2.length
  refine PySem.P.add_list e e2 ?_ (by simp only [List.size_toArray]; omega)
  rw [show its.toArray ++ its2.toArray = (its ++ its2).toArray by simp]
  have hp := Heap.get?_push_size s.heap (o := { cls := .type "list", data := .seq (its ++ its2).toArray }) rfl
  have J := I.laid (t' := s.toks) (o := .lst (xs ++ zs)) (fun b u e => Heap.get?_push_of_some _ e) (Nat.le_refl _) ⟨by rw [List.length_append]; exact hz, its ++ its2, 0, r.append r2, hp⟩
  exact ⟨.ref _, _, J, rfl, q _ (I.hok.fresh (Nat.le_refl _))⟩
def addD : D → D → Option D
  | .int i, .int j => some (.int (i + j))
  | .str a, .str b => if a.length + b.length ≤ sizeLine then some (.str (a ++ b)) else none
  | .lst a, .lst b => if a.length + b.length ≤ sizeLine then some (.lst (a ++ b)) else none
  | .tup a, .tup b => if a.length + b.length ≤ sizeLine then some (.tup (a ++ b)) else none
  | _, _ => none
abbrev rAddD (K : PySem.W.Frag) : R2 := fun x y H Q => (rI0 (fun i j => .int (i + j)) x y H Q ∨ (∃ i j, x = .str i ∧ y = .str j ∧ i.length + j.length ≤ sizeLine ∧ Q (.str (i ++ j)) H)) ∨ (rCatL x y H Q ∨ rCatE K x y H Q)
theorem op_addD {X : Cx} : OpR X (binaryOp .Add) (rAddD X.K) := (op_add.or op_add_str).or (op_catL.or op_catE)
theorem opd_add : OpD K (rAddD K) addD := by
  intro F H x y a b z e hx hy hz Q k
  match x, y, hz with
  | .int i, .int j, hz =>
    cases hz
    exact .inl (.inl ⟨i, j, hx, hy, gr_val (z := .int (i + j)) e rfl k⟩)
  | .str i, .str j, hz =>
    by_cases h : i.length + j.length ≤ sizeLine
    · have hz' : some (D.str (i ++ j)) = some z := by rw [← hz]; exact (if_pos h).symm
      cases hz'
      exact .inl (.inr ⟨i, j, hx, hy, h, gr_val (z := .str (i ++ j)) e rfl k⟩)
    · have hz' : none = some z := by rw [← hz]; exact (if_neg h).symm
      cases hz'
  | .lst ds, .lst es, hz =>
    by_cases h : ds.length + es.length ≤ sizeLine
    · have hz' : some (D.lst (ds ++ es)) = some z := by rw [← hz]; exact (if_pos h).symm
      cases hz'
      obtain ⟨p, vs, rfl, h1, h2⟩ := hx
      obtain ⟨q, ws, rfl, h3, h4⟩ := hy
      refine .inr (.inl ⟨p, q, vs, ws, rfl, rfl, e.rd h1, e.rd h3, by rw [← Dens.length h2, ← Dens.length h4]; exact h, fun r hr => ?_⟩)
      obtain ⟨g, d⟩ := gr_lst e hr (Dens.append h2 h4)
      exact k _ _ _ g d
    · have hz' : none = some z := by rw [← hz]; exact (if_neg h).symm
      cases hz'
  | .tup ds, .tup es, hz =>
    by_cases h : ds.length + es.length ≤ sizeLine
    · have hz' : some (D.tup (ds ++ es)) = some z := by rw [← hz]; exact (if_pos h).symm
      cases hz'
      obtain ⟨p, o1, vs, rfl, h1, d1, h2⟩ := hx
      obtain ⟨q, o2, ws, rfl, h3, d3, h4⟩ := hy
      have l1 := Dens.length h2
      have l2 := Dens.length h4
      refine .inr (.inr ⟨p, q, vs, ws, rfl, rfl, .inl (.inr ⟨o1, e.at_ _ _ h1 rfl⟩), .inl (.inr ⟨o2, e.at_ _ _ h3 rfl⟩), by rw [← l1, ← l2]; exact h, fun z => ?_, fun _ z => ?_, fun _ _ r o hr ho => ?_⟩)
      · subst z
        have e0 : ds = [] := List.eq_nil_of_length_eq_zero l1
        subst e0
        exact k F H _ (Gr.refl e) ⟨q, o2, ws, rfl, h3, d3, h4⟩
      · subst z
        have e0 : es = [] := List.eq_nil_of_length_eq_zero l2
        subst e0
        rw [List.append_nil] at k
        exact k F H _ (Gr.refl e) ⟨p, o1, vs, rfl, h1, d1, h2⟩
      · obtain ⟨g, d⟩ := gr_tup e hr ho (Dens.append h2 h4)
        exact k _ _ _ g d
    · have hz' : none = some z := by rw [← hz]; exact (if_neg h).symm
      cases hz'
def eqvD (d e : D) : Option Bool := (toPy d).bind fun a => (toPy e).bind fun b => if SeqAt.shaped a = true ∧ SeqAt.shaped b = true then some (PyData.eqv a b) else none
def neD (d e : D) : Option D := (eqvD d e).map fun b => .bl (!b)
theorem eqvD_some {d e : D} {r : Bool} (h : eqvD d e = some r) : ∃ a b, toPy d = some a ∧ toPy e = some b ∧ SeqAt.shaped a = true ∧ SeqAt.shaped b = true ∧ r = PyData.eqv a b := by
  obtain ⟨a, h1, h⟩ := Option.bind_eq_some_iff.mp h
  obtain ⟨b, h2, h⟩ := Option.bind_eq_some_iff.mp h
  by_cases c : SeqAt.shaped a = true ∧ SeqAt.shaped b = true
  · rw [if_pos c] at h
    exact ⟨a, b, h1, h2, c.1, c.2, (Option.some.inj h).symm⟩
  · rw [if_neg c] at h
    cases h
theorem opd_ne : OpD K (rNeD K) neD := by
  intro F H x y a b z e hx hy hz Q k
  obtain ⟨r, h1, h2⟩ := Option.map_eq_some_iff.mp hz
  obtain ⟨p, q, e1, e2, s1, s2, er⟩ := eqvD_some h1
  subst h2 er
  exact ⟨p, q, toPy_dp e x a p hx e1, toPy_dp e y b q hy e2, s1, s2, gr_val (z := .bl _) e rfl k⟩
/-- in a list, a tuple of data; a text in a text -/
def inB (d e : D) : Option Bool := match d, e with
  | .str a, .str b => some (!(Builtin.Str.occurrences b a 0 b.length 1).isEmpty)
  | d, .lst es => (toPy d).bind fun a => (toPys es).bind fun bs => if SeqAt.shaped a = true ∧ SeqAt.shaped (.list bs) = true then some (bs.any fun z => PyData.eqv z a) else none
  | d, .tup es => (toPy d).bind fun a => (toPys es).bind fun bs => if SeqAt.shaped a = true ∧ SeqAt.shaped (.list bs) = true then some (bs.any fun z => PyData.eqv z a) else none
  | d, .wtp es => (toPy d).bind fun a => (toPys es).bind fun bs => if SeqAt.shaped a = true ∧ SeqAt.shaped (.list bs) = true then some (bs.any fun z => PyData.eqv z a) else none
  | _, _ => none
def inD (d e : D) : Option D := (inB d e).map .bl
/-- is None, is not None -/
def isNonB : D → Bool
  | .non => true
  | _ => false
def isD (d e : D) : Option D := match e with
  | .non => some (.bl (isNonB d))
  | _ => none
def isNotD (d e : D) : Option D := match e with
  | .non => some (.bl (!isNonB d))
  | _ => none
end
end DD
namespace DD
open PySem PySem.Spec PyProof.Rows L2
section
variable {K : PySem.W.Frag}
abbrev rGetD (K : PySem.W.Frag) : R2 := fun x y H Q => (rIxL K x y H Q ∨ rIxT K x y H Q) ∨ rIxS x y H Q
theorem ix_getD {X : Cx} : IxR X (rGetD X.K) := (ix_list.or ix_tup).or ix_str
theorem atI_map {α β : Type} (f : α → β) (xs : List α) (i : Int) : atI (xs.map f) i = (atI xs i).map f := by
  unfold atI
  rw [List.length_map]
  cases ixN xs.length i with
  | none => rfl
  | some j => simp
theorem opd_get : OpD K (rGetD K) getD := by
  intro F H x y a b z e hx hy hz Q k
  match x, y, hz with
  | .lst ds, .int i, hz =>
    obtain ⟨p, vs, rfl, h1, h2⟩ := hx
    obtain ⟨v, h3, h4⟩ := Dens.at_ h2 hz
    exact .inl (.inl ⟨p, vs, i, v, rfl, hy, .inl (e.rd h1), h3, gr_val e h4 k⟩)
  | .tup ds, .int i, hz =>
    obtain ⟨p, o, vs, rfl, h1, _, h2⟩ := hx
    obtain ⟨v, h3, h4⟩ := Dens.at_ h2 hz
    exact .inl (.inr ⟨p, vs, i, v, rfl, hy, .inl (.inr ⟨o, e.at_ _ _ h1 rfl⟩), h3, gr_val e h4 k⟩)
  | .scr ns, .int i, hz =>
    obtain ⟨p, rfl, h1⟩ := hx
    obtain ⟨n, h2, rfl⟩ := Option.map_eq_some_iff.mp hz
    exact .inl (.inl ⟨p, _, i, .int n, rfl, hy, e.l h1, by rw [atI_map, h2]; rfl, gr_val (z := .int n) e rfl k⟩)
  | .str s, .int i, hz =>
    by_cases h : s.length ≤ sizeLine
    · have hz' : (atI s.cps.toList i).map (fun c => D.str ⟨#[c]⟩) = some z := by rw [← hz]; exact (if_pos h).symm
      obtain ⟨c, h2, rfl⟩ := Option.map_eq_some_iff.mp hz'
      exact .inr ⟨s, i, c, hx, hy, h, h2, gr_val (z := .str ⟨#[c]⟩) e rfl k⟩
    · have hz' : none = some z := by rw [← hz]; exact (if_neg h).symm
      cases hz'
def cutD {α : Type} (xs : List α) (lo hi : Option Int) : List α := (xs.drop (HT.sIx xs.length 0 lo)).take (HT.sIx xs.length xs.length hi - HT.sIx xs.length 0 lo)
def sliceD (d : D) (lo hi : Option Int) : Option D := match d with
  | .lst ds => some (.lst (cutD ds lo hi))
  | .tup ds => some (.tup (cutD ds lo hi))
  | .scr ns => some (.lst ((cutD ns lo hi).map .int))
  | .str s => if s.length ≤ sizeLine then some (.str (cutS s lo hi)) else none
  | _ => none
/-- a part of a slice: left out, or an int -/
structure PDPart (X : Cx) (W : WX) (e : Option Expr) (t : TO) (m : DEnv → Rs (Option Int)) : Prop where
  po : PO X e t
  sn : Sn X.K W (fun _ (a b : Option Int) => a = b) emp t m
def mNoPart : DEnv → Rs (Option Int) := fun env => .ok none env
def mPart (a : MD) : DEnv → Rs (Option Int) := fun env => (a env).bind fun d e => match d with
  | .int i => .ok (some i) e
  | _ => .fail
theorem pdp_none {X : Cx} {W : WX} : PDPart X W none tNoPart mNoPart := ⟨po_none, fun F H σ env fp Q _ R h => h F H fp none Po.refl R rfl⟩
theorem pdp_some {X : Cx} {W : WX} {e : Expr} {t : TE} {m : MD} (h : PD X W e t m) : PDPart X W (some e) (tPart t) (mPart m) := by
  refine ⟨po_some h.pe, fun F H σ env fp Q _ R hq => ?_⟩
  refine h.sn.go ex_emp R hq fun F1 H1 fp1 env1 x v P1 R1 d1 h1 => ?_
  cases x with
  | int i => exact ⟨i, d1, h1 F1 H1 fp1 (some i) Po.refl R1 rfl⟩
  | _ => exact h1.elim
/-- a slice of a tuple, told as the object that it is -/
def rSlE (K : PySem.W.Frag) : V → Option Int → Option Int → Hp → VK → Prop := fun x lo hi H Q => ∃ a xs, x = .ref a ∧ SqT K H a xs ∧
  (HT.sIx xs.length 0 lo = 0 ∧ HT.sIx xs.length xs.length hi = xs.length → Q (.ref a) H) ∧ (¬ (HT.sIx xs.length 0 lo = 0 ∧ HT.sIx xs.length xs.length hi = xs.length) → ∀ p o, H p = none → o.dict = none → Q (.ref p) (upd H p (.frz o (.tup (cutV xs lo hi)))))
theorem sl_tupE {X : Cx} : SlR X (rSlE X.K) := by
  intro pins s σ H x v vl vu lo hi sl Q I rx hs pl pu h
  obtain ⟨a, xs, rfl, hx, q1, q2⟩ := h
  cases rx
  obtain ⟨its, r, ht, hz⟩ := I.tuple hx
  have hlen : its.toArray.size = xs.length := by simp [r.length]
  refine ⟨"tuple", _, PyProof.Rows.slot_tuple_getitem.lookup, ht.typeIs, ?_⟩
  by_cases hw : HT.sIx xs.length 0 lo = 0 ∧ HT.sIx xs.length xs.length hi = xs.length
  · exact getItem_tuple_whole ht hs pl pu (by rw [hlen]; exact hw) ⟨.ref a, H, I, rfl, q1 hw⟩
  · refine HT.getItem_tuple_cut ht hs pl pu (by rw [hlen]; exact hw) ?_ (by rw [hlen]; exact hz)
    rw [hlen]
    generalize hc : (its.toArray.toList.drop (HT.sIx xs.length 0 lo)).take (HT.sIx xs.length xs.length hi - HT.sIx xs.length 0 lo) = cut
    have rc : Vals (cutV xs lo hi) cut := by
      rw [← hc]
      exact (r.drop _).take _
    have hp := Heap.get?_push_size s.heap (o := { cls := .type "tuple", data := .seq cut.toArray }) rfl
    have J := I.laid (t' := s.toks) (o := .frz { cls := .type "tuple", data := .seq cut.toArray } (.tup (cutV xs lo hi))) (fun b u e => Heap.get?_push_of_some _ e) (Nat.le_refl _) ⟨hp, Nat.le_trans (cutV_length xs lo hi) hz, cut, rc, ⟨_, hp, rfl, _, rfl⟩⟩
    exact ⟨.ref _, _, J, rfl, q2 hw _ _ (I.hok.fresh (Nat.le_refl _)) rfl⟩
abbrev rSlD (K : PySem.W.Frag) : V → Option Int → Option Int → Hp → VK → Prop := fun x lo hi H Q => (rSlL K x lo hi H Q ∨ rSlE K x lo hi H Q) ∨ rSlS x lo hi H Q
theorem sl_D {X : Cx} : SlR X (rSlD X.K) := (sl_list.or sl_tupE).or sl_str
theorem Dens.cut {F : Hp} {ds : List D} {vs : List V} (lo hi : Option Int) (h : Dens K F ds vs) : Dens K F (cutD ds lo hi) (cutV vs lo hi) := by
  unfold cutD cutV
  rw [Dens.length h]
  exact (h.drop _).take _
theorem cutD_map {α β : Type} (f : α → β) (xs : List α) (lo hi : Option Int) : cutD (xs.map f) lo hi = (cutD xs lo hi).map f := by
  unfold cutD
  rw [List.length_map, List.map_take, List.map_drop]
theorem dens_ints {F : Hp} : ∀ ns : List Int, Dens K F (ns.map D.int) (ns.map V.int)
  | [] => rfl
  | n :: ns => ⟨.int n, ns.map V.int, rfl, rfl, dens_ints ns⟩
theorem sld {F H : Hp} {x : D} {a : V} {z : D} {lo hi : Option Int} (e : FH F H) (hx : Den K F x a) (hz : sliceD x lo hi = some z) (Q : VK) (k : ∀ F' H' c, Gr F H F' H' → Den K F' z c → Q c H') : rSlD K a lo hi H Q := by
  match x, hz with
  | .lst ds, hz =>
    cases hz
    obtain ⟨p, vs, rfl, h1, h2⟩ := hx
    refine .inl (.inl ⟨p, vs, rfl, .inl (e.rd h1), fun r hr => ?_⟩)
    obtain ⟨g, d⟩ := gr_lst e hr (h2.cut lo hi)
    exact k _ _ _ g d
  | .tup ds, hz =>
    cases hz
    obtain ⟨p, o, vs, rfl, h1, hd, h2⟩ := hx
    refine .inl (.inr ⟨p, vs, rfl, .inl (.inr ⟨o, e.at_ _ _ h1 rfl⟩), fun hw => ?_, fun _ r u hr hu => ?_⟩)
    · have ec : cutD ds lo hi = ds := by
        unfold cutD
        rw [Dens.length h2, hw.1, hw.2, List.drop_zero, Nat.sub_zero, ← Dens.length h2, List.take_length]
      rw [ec] at k
      exact k F H _ (Gr.refl e) ⟨p, o, vs, rfl, h1, hd, h2⟩
    · obtain ⟨g, d⟩ := gr_tup e hr hu (h2.cut lo hi)
      exact k _ _ _ g d
  | .scr ns, hz =>
    cases hz
    obtain ⟨p, rfl, h1⟩ := hx
    refine .inl (.inl ⟨p, _, rfl, e.l h1, fun r hr => ?_⟩)
    have dc := (dens_ints (K := K) (F := F) ns).cut lo hi
    rw [cutD_map] at dc
    obtain ⟨g, d⟩ := gr_lst e hr dc
    exact k _ _ _ g d
  | .str s, hz =>
    by_cases h : s.length ≤ sizeLine
    · have hz' : some (D.str (cutS s lo hi)) = some z := by rw [← hz]; exact (if_pos h).symm
      cases hz'
      exact .inr ⟨s, hx, h, gr_val (z := .str (cutS s lo hi)) e rfl k⟩
    · have hz' : none = some z := by rw [← hz]; exact (if_neg h).symm
      cases hz'
def mSlice (a : MD) (l u : DEnv → Rs (Option Int)) : MD := fun env => (a env).bind fun x e1 => (l e1).bind fun lo e2 => (u e2).bind fun hi e3 => ofO (sliceD x lo hi) e3
theorem pd_slice {X : Cx} {W : WX} {e : Expr} {te : TE} {me : MD} {lo hi : Option Expr} {tl th : TO} {ml mh : DEnv → Rs (Option Int)} {pos p2 : Pos} (he : PD X W e te me) (hl : PDPart X W lo tl ml) (hu : PDPart X W hi th mh) :
    PD X W (.Subscript e (.Slice lo hi none p2) pos) (tSl (rSlD X.K) te tl th) (mSlice me ml mh) := by
  refine ⟨pe_slice sl_D he.pe hl.po hu.po, fun F H σ env fp Q _ R h => ?_⟩
  refine he.sn.go ex_emp R h fun F1 H1 fp1 env1 x v P1 R1 d1 h1 => ?_
  refine hl.sn.go ex_emp R1 h1 fun F2 H2 fp2 env2 l l' P2 R2 d2 h2 => ?_
  have d2' : l = l' := d2
  subst d2'
  refine hu.sn.go ex_emp R2 h2 fun F3 H3 fp3 env3 u u' P3 R3 d3 h3 => ?_
  have d3' : u = u' := d3
  subst d3'
  obtain ⟨c, e, k⟩ := out_ofO R3 h3
  exact sld R3.ex (Den.mono (P2.f.trans P3.f) _ _ d1) e Q k
def lenD : List D → Option D
  | [.lst ds] => some (.int ds.length)
  | [.tup ds] => some (.int ds.length)
  | [.wtp ds] => some (.int ds.length)
  | [.scr ns] => some (.int ns.length)
  | [.str s] => if s.length ≤ sizeLine then some (.int s.length) else none
  | _ => none
theorem one_den {F : Hp} {x : D} {as : List V} (h : Dens K F [x] as) : ∃ a, as = [a] ∧ Den K F x a := by
  obtain ⟨a, r, rfl, h1, h2⟩ := h
  have h2' : r = [] := h2
  subst h2'
  exact ⟨a, rfl, h1⟩
theorem two_den {F : Hp} {x y : D} {as : List V} (h : Dens K F [x, y] as) : ∃ a b, as = [a, b] ∧ Den K F x a ∧ Den K F y b := by
  obtain ⟨a, r, rfl, h1, h2⟩ := h
  obtain ⟨b, rfl, h3⟩ := one_den h2
  exact ⟨a, b, rfl, h1, h3⟩
theorem cd_len : CallD K (fun xs H Q => ∃ x n, xs = [x] ∧ LenV K x H n ∧ Q (.int n) H) lenD := by
  intro F H xs as z e hx hz Q k
  match xs, hz with
  | [.lst ds], hz =>
    cases hz
    obtain ⟨_, rfl, p, vs, rfl, h1, h2⟩ := one_den hx
    exact ⟨.ref p, ds.length, rfl, .inl ⟨vs, .inl (e.rd h1), Dens.length h2⟩, gr_val (z := .int ds.length) e rfl k⟩
  | [.tup ds], hz =>
    cases hz
    obtain ⟨_, rfl, p, o, vs, rfl, h1, _, h2⟩ := one_den hx
    exact ⟨.ref p, ds.length, rfl, .inr ⟨vs, .inl (.inr ⟨o, e.at_ _ _ h1 rfl⟩), Dens.length h2⟩, gr_val (z := .int ds.length) e rfl k⟩
  | [.wtp ds], hz =>
    cases hz
    obtain ⟨_, rfl, p, vs, rfl, h1, h2⟩ := one_den hx
    exact ⟨.ref p, ds.length, rfl, .inr ⟨vs, .inl (.inl (e.at_ _ _ h1 rfl)), Dens.length h2⟩, gr_val (z := .int ds.length) e rfl k⟩
  | [.scr ns], hz =>
    cases hz
    obtain ⟨_, rfl, p, rfl, h1⟩ := one_den hx
    exact ⟨.ref p, ns.length, rfl, .inl ⟨_, e.l h1, by simp⟩, gr_val (z := .int ns.length) e rfl k⟩
  | [.str s], hz =>
    obtain ⟨a, rfl, h1⟩ := one_den hx
    by_cases h : s.length ≤ sizeLine
    · have hz' : some (D.int s.length) = some z := by rw [← hz]; exact (if_pos h).symm
      cases hz'
      have h1' : a = .str s := h1
      subst h1'
      exact ⟨.str s, s.length, rfl, ⟨h, rfl⟩, gr_val (z := .int s.length) e rfl k⟩
    · have hz' : none = some z := by rw [← hz]; exact (if_neg h).symm
      cases hz'
def absD : List D → Option D
  | [.int i] => some (.int (if i < 0 then -i else i))
  | _ => none
theorem cd_abs : CallD K (fun xs H Q => ∃ i, xs = [.int i] ∧ Q (.int (if i < 0 then -i else i)) H) absD := by
  intro F H xs as z e hx hz Q k
  match xs, hz with
  | [.int i], hz =>
    cases hz
    obtain ⟨a, rfl, h1⟩ := one_den hx
    have h1' : a = .int i := h1
    subst h1'
    exact ⟨i, rfl, gr_val (z := .int (if i < 0 then -i else i)) e rfl k⟩
def max2D : List D → Option D
  | [.int i, .int j] => some (.int (if j > i then j else i))
  | _ => none
def min2D : List D → Option D
  | [.int i, .int j] => some (.int (if j < i then j else i))
  | _ => none
theorem cd_max2 : CallD K (fun xs H Q => ∃ i j, xs = [.int i, .int j] ∧ Q (.int (if j > i then j else i)) H) max2D := by
  intro F H xs as z e hx hz Q k
  match xs, hz with
  | [.int i, .int j], hz =>
    cases hz
    obtain ⟨a, b, rfl, h1, h2⟩ := two_den hx
    have h1' : a = .int i := h1
    have h2' : b = .int j := h2
    subst h1' h2'
    exact ⟨i, j, rfl, gr_val (z := .int (if j > i then j else i)) e rfl k⟩
theorem cd_min2 : CallD K (fun xs H Q => ∃ i j, xs = [.int i, .int j] ∧ Q (.int (if j < i then j else i)) H) min2D := by
  intro F H xs as z e hx hz Q k
  match xs, hz with
  | [.int i, .int j], hz =>
    cases hz
    obtain ⟨a, b, rfl, h1, h2⟩ := two_den hx
    have h1' : a = .int i := h1
    have h2' : b = .int j := h2
    subst h1' h2'
    exact ⟨i, j, rfl, gr_val (z := .int (if j < i then j else i)) e rfl k⟩
def intD : List D → Option D
  | [.int i] => some (.int i)
  | [.bl b] => some (.int (if b then 1 else 0))
  | _ => none
theorem cd_int : CallD K (fun xs H Q => (∃ i, xs = [.int i] ∧ Q (.int i) H) ∨ ∃ k, xs = [.bl k] ∧ Q (.int (if k then 1 else 0)) H) intD := by
  intro F H xs as z e hx hz Q k
  match xs, hz with
  | [.int i], hz =>
    cases hz
    obtain ⟨a, rfl, h1⟩ := one_den hx
    have h1' : a = .int i := h1
    subst h1'
    exact .inl ⟨i, rfl, gr_val (z := .int i) e rfl k⟩
  | [.bl b], hz =>
    cases hz
    obtain ⟨a, rfl, h1⟩ := one_den hx
    have h1' : a = .bl b := h1
    subst h1'
    exact .inr ⟨b, rfl, gr_val (z := .int (if b then 1 else 0)) e rfl k⟩
/-- divmod: a pair that is unpacked at once -/
def divmodD : List D → Option D
  | [.int i, .int j] => if 0 < j ∧ j < 1073741824 then some (.tup [.int (i / j), .int (i % j)]) else none
  | _ => none
theorem pdw_divmod {X : Cx} {W : WX} {e : Expr} {es : List Expr} {t : TA} {m : MA} {p pos : Pos} (hg : Gl X "divmod") (hm : X.mg "divmod" = none) (ha : PDA X W (e :: es) t m)
    (he : starEach (e :: es) X.env = (false, eval e X.env) :: starEach es X.env := by rfl) (hpl : (backTo pos (starEach es X.env)).any (·.1) = false := by rfl) :
    PDw X W (.Call (.Name "divmod" p) (e :: es) [] pos) (tCB (fun xs H Q => ∃ i j, xs = [.int i, .int j] ∧ CDiv i j ∧ ∀ p, H p = none → Q (.ref p) (upd H p (.tup [.int (i / j), .int (i % j)]))) t) (mCB divmodD m) := by
  refine ⟨pe_callB call_divmod hg hm (by decide +kernel) ha.pa (by decide) (by decide) he hpl, fun F H σ env fp Q _ R h => ?_⟩
  refine ha.sn.go ex_emp R h fun F1 H1 fp1 env1 x v P1 R1 d1 h1 => ?_
  obtain ⟨c, ec, k⟩ := out_ofO R1 h1
  match x, ec with
  | [.int i, .int j], ec =>
    obtain ⟨a, b, rfl, h1, h2⟩ := two_den d1
    have h1' : a = .int i := h1
    have h2' : b = .int j := h2
    subst h1' h2'
    by_cases hj : 0 < j ∧ j < 1073741824
    · have ec' : some (D.tup [.int (i / j), .int (i % j)]) = some c := by rw [← ec]; exact (if_pos hj).symm
      cases ec'
      refine ⟨i, j, rfl, hj, fun r hr => ?_⟩
      have g : Gr F1 H1 (upd F1 r (.tup [.int (i / j), .int (i % j)])) (upd H1 r (.tup [.int (i / j), .int (i % j)])) := Gr.new R1.ex hr
      exact k _ _ _ g (.inr ⟨_, r, _, rfl, rfl, .inl upd_same, .int (i / j), _, rfl, rfl, .int (i % j), _, rfl, rfl, rfl⟩)
    · have ec' : none = some c := by rw [← ec]; exact (if_neg hj).symm
      cases ec'
def seqD : D → Option (List D)
  | .lst ds => some ds
  | .tup ds => some ds
  | .scr ns => some (ns.map .int)
  | _ => none
def listD : List D → Option D
  | [x] => (seqD x).map .lst
  | _ => none
def tupleD : List D → Option D
  | [x] => (seqD x).map .tup
  | _ => none
/-- a list of one kind -/
def bools : List D → Option (List Bool)
  | [] => some []
  | .bl b :: ds => (bools ds).map fun bs => b :: bs
  | _ => none
theorem bools_vs {F : Hp} : ∀ {ds : List D} {vs : List V} {bs : List Bool}, Dens K F ds vs → bools ds = some bs → vs = bs.map V.bl
  | [], vs, bs, h, q => by
    cases q
    exact h
  | .bl b :: ds, vs, bs, ⟨x, xs, r, s, t⟩, q => by
    obtain ⟨bs', q1, rfl⟩ := Option.map_eq_some_iff.mp q
    have s' : x = .bl b := s
    rw [r, s', bools_vs t q1]
    rfl
  | .non :: _, _, _, _, q => by cases q
  | .int _ :: _, _, _, _, q => by cases q
  | .str _ :: _, _, _, _, q => by cases q
  | .tup _ :: _, _, _, _, q => by cases q
  | .lst _ :: _, _, _, _, q => by cases q
  | .dct _ _ :: _, _, _, _, q => by cases q
  | .dtt _ _ :: _, _, _, _, q => by cases q
  | .ins _ _ _ :: _, _, _, _, q => by cases q
  | .exn _ _ _ :: _, _, _, _, q => by cases q
  | .scr _ :: _, _, _, _, q => by cases q
def allD : List D → Option D
  | [.lst ds] => (bools ds).map fun bs => .bl (bs.all id)
  | _ => none
theorem cd_all : CallD K (rAll K) allD := by
  intro F H xs as z e hx hz Q k
  match xs, hz with
  | [.lst ds], hz =>
    obtain ⟨bs, h1, rfl⟩ := Option.map_eq_some_iff.mp hz
    obtain ⟨_, rfl, p, vs, rfl, h2, h3⟩ := one_den hx
    have ev := bools_vs h3 h1
    subst ev
    exact ⟨p, bs, rfl, .inl (e.rd h2), gr_val (z := .bl (bs.all id)) e rfl k⟩
end
end DD
namespace DD
open PySem PySem.Spec PyProof.Rows L2
section
variable {X : Cx} {W : WX} {tg : Expr}
theorem pi_or {e : Expr} {w1 w2 : TI} (h1 : PI X tg e w1) (h2 : PI X tg e w2) : PI X tg e (fun σ H R => w1 σ H R ∨ w2 σ H R) :=
  ⟨fun pins s σ H R I h => h.elim (h1.run pins s σ H R I) (h2.run pins s σ H R I)⟩
/-- what a value gives when it is walked -/
def iterD : D → Option (List D)
  | .lst ds => some ds
  | .tup ds => some ds
  | .wtp ds => some ds
  | .scr ns => some (ns.map .int)
  | .str x => some (x.cps.toList.map fun c => .str ⟨#[c]⟩)
  | _ => none
def mIter (a : MD) : MA := fun env => (a env).bind fun x e => ofO (iterD x) e
abbrev iSeqD (K : PySem.W.Frag) (te : TE) : TI := fun σ H R => (iList K te σ H R ∨ iTup K te σ H R) ∨ iStr te σ H R
theorem itr_listA {K : PySem.W.Frag} {F : Hp} {a : Addr} {vs : List V} {ds : List D} (hu : ∀ H, FA F H → SqL K H a vs) (hd : Dens K F ds vs) : Itr false K F ds (Itl K a) := by
  intro F' H ef eh i
  refine ⟨fun d hd' => ?_, fun hl => ⟨vs, hu H (FA.of ef eh.toFA), by rw [← Dens.length hd]; exact hl⟩⟩
  obtain ⟨v, h1, h2⟩ := Dens.get hd hd'
  refine ⟨⟨vs, v, hu H (FA.of ef eh.toFA), h1⟩, ?_⟩
  rintro x H' ⟨rfl, h3⟩
  have e1 := h3 vs (hu _ (FA.of ef eh.toFA))
  rw [h1] at e1
  cases e1
  exact ⟨F', Gr.refl eh, Den.mono ef d v h2⟩
theorem itr_str {K : PySem.W.Frag} {F : Hp} (s : Str) : Itr false K F (s.cps.toList.map fun c => D.str ⟨#[c]⟩) (Its s) := by
  intro F' H ef eh i
  refine ⟨fun d hd' => ?_, fun hl => by
    show s.cps.size ≤ i
    simpa using hl⟩
  rw [List.getElem?_map] at hd'
  obtain ⟨c, h1, rfl⟩ := Option.map_eq_some_iff.mp hd'
  have h1' : s.cps[i]? = some c := by simpa using h1
  refine ⟨(Array.getElem?_eq_some_iff.mp h1').1, ?_⟩
  rintro x H' ⟨rfl, c', h2, rfl⟩
  rw [h1'] at h2
  cases h2
  exact ⟨F', Gr.refl eh, rfl⟩
theorem itr_tup {K : PySem.W.Frag} {F : Hp} {a : Addr} {vs : List V} {ds : List D} (hu : ∀ H, FA F H → SqT K H a vs) (hd : Dens K F ds vs) : Itr false K F ds (Itt K a) := by
  intro F' H ef eh i
  refine ⟨fun d hd' => ?_, fun hl => ⟨vs, hu H (FA.of ef eh.toFA), by rw [← Dens.length hd]; exact hl⟩⟩
  obtain ⟨v, h1, h2⟩ := Dens.get hd hd'
  refine ⟨⟨vs, v, hu H (FA.of ef eh.toFA), h1⟩, ?_⟩
  rintro x H' ⟨rfl, h3⟩
  have e1 := h3 vs (hu _ (FA.of ef eh.toFA))
  rw [h1] at e1
  cases e1
  exact ⟨F', Gr.refl eh, Den.mono ef d v h2⟩
theorem sn_iter {K : PySem.W.Frag} {te : TE} {me : MD} (he : Sn K W (Den K) emp te me) : Sn K W (Itr false K) emp (iSeqD K te) (mIter me) := by
  intro F H σ env fp Q _ R h
  -- which of the three, by what comes
  have fin : ∀ (t : TI) (P : D → Prop) (k : V → Hp → (It → Hp → Prop) → Prop), (∀ σ H R, t σ H R = te σ H fun x H1 => k x H1 R) →
      (∀ e x, me env = .ok x e → P x) → (∀ F1 H1 x v ds, FH F1 H1 → Den K F1 x v → P x → iterD x = some ds → ∀ R : It → Hp → Prop, (∀ J, Itr false K F1 ds J → R J H1) → k v H1 R) → t σ H Q := by
    intro t P k ht hP hk
    rw [ht]
    have hP' := hP
    refine he F H σ env fp _ ex_emp R ?_
    unfold mIter at h
    generalize me env = r at h hP'
    cases r with
    | ok x e =>
      intro F1 H1 fp1 v P1 R1 d1
      have h1 := Out.step P1 h
      rw [Rs.bind_ok] at h1
      cases hi : iterD x with
      | none => rw [hi] at h1; exact h1.elim
      | some ds =>
        rw [hi] at h1
        exact hk F1 H1 x v ds R1.ex d1 (hP' e x rfl) hi _ fun J hJ => h1 F1 H1 fp1 J Po.refl R1 hJ
    | exc x e => exact h
    | fail => exact h
  have L := fin (iList K te) (fun x => (∃ ds, x = .lst ds) ∨ ∃ ns, x = .scr ns) (fun x H1 R => ∃ a, x = .ref a ∧ (∃ xs, SqL K H1 a xs) ∧ R (Itl K a) H1) (fun _ _ _ => rfl)
  have T := fin (iTup K te) (fun x => (∃ ds, x = .tup ds) ∨ ∃ ds, x = .wtp ds) (fun x H1 R => ∃ a, x = .ref a ∧ (∃ xs, SqT K H1 a xs) ∧ R (Itt K a) H1) (fun _ _ _ => rfl)
  have S := fin (iStr te) (fun x => ∃ s, x = .str s) (fun v H1 R => ∃ x, v = .str x ∧ R (Its x) H1) (fun _ _ _ => rfl)
  have tup : (∀ e x, me env = .ok x e → (∃ ds, x = .tup ds) ∨ ∃ ds, x = .wtp ds) → iSeqD K te σ H Q := fun hP => .inl (.inr (T hP fun F1 H1 x v ds e1 d1 hx hi R k => by
    rcases hx with ⟨ds', rfl⟩ | ⟨ds', rfl⟩
    · cases hi
      obtain ⟨a, o, vs, rfl, h1, _, h2⟩ := d1
      exact ⟨a, rfl, ⟨vs, .inl (.inr ⟨o, e1.at_ _ _ h1 rfl⟩)⟩, k _ (itr_tup (fun H eh => .inl (.inr ⟨o, eh.at_ _ _ h1 rfl⟩)) h2)⟩
    · cases hi
      obtain ⟨a, vs, rfl, h1, h2⟩ := d1
      exact ⟨a, rfl, ⟨vs, .inl (.inl (e1.at_ _ _ h1 rfl))⟩, k _ (itr_tup (fun H eh => .inl (.inl (eh.at_ _ _ h1 rfl))) h2)⟩))
  have lst : (∀ e x, me env = .ok x e → (∃ ds, x = .lst ds) ∨ ∃ ns, x = .scr ns) → iSeqD K te σ H Q := fun hP => .inl (.inl (L hP fun F1 H1 x v ds e1 d1 hx hi R k => by
    rcases hx with ⟨ds', rfl⟩ | ⟨ns, rfl⟩
    · cases hi
      obtain ⟨a, vs, rfl, h1, h2⟩ := d1
      exact ⟨a, rfl, ⟨vs, .inl (e1.rd h1)⟩, k _ (itr_listA (fun H eh => .inl (eh.rd h1)) h2)⟩
    · cases hi
      obtain ⟨a, rfl, h1⟩ := d1
      exact ⟨a, rfl, ⟨_, e1.l h1⟩, k _ (itr_listA (fun H eh => eh.l h1) (dens_ints ns))⟩))
  have str : (∀ e x, me env = .ok x e → ∃ s, x = .str s) → iSeqD K te σ H Q := fun hP => .inr (S hP fun F1 H1 x v ds e1 d1 hx hi R k => by
    obtain ⟨s, rfl⟩ := hx
    cases hi
    exact ⟨s, d1, k _ (itr_str s)⟩)
  cases hm : me env with
  | ok x e =>
    cases x with
    | tup ds => exact tup fun e' x' q => by rw [hm] at q; cases q; exact .inl ⟨_, rfl⟩
    | wtp ds => exact tup fun e' x' q => by rw [hm] at q; cases q; exact .inr ⟨_, rfl⟩
    | lst ds => exact lst fun e' x' q => by rw [hm] at q; cases q; exact .inl ⟨_, rfl⟩
    | scr ds => exact lst fun e' x' q => by rw [hm] at q; cases q; exact .inr ⟨_, rfl⟩
    | str s => exact str fun e' x' q => by rw [hm] at q; cases q; exact ⟨_, rfl⟩
    | _ =>
      unfold mIter at h
      rw [hm] at h
      exact h.elim
  | exc x e => exact tup fun e' x' q => by rw [hm] at q; cases q
  | fail =>
    unfold mIter at h
    rw [hm] at h
    exact h.elim
theorem pdi_seq {e : Expr} {te : TE} {me : MD} (he : PD X W e te me) : PDI false X W tg e (iSeqD X.K te) (mIter me) := ⟨pi_or (pi_or (pi_list he.pe) (pi_tup he.pe)) (pi_str he.pe), sn_iter he.sn⟩
def rngD : List D → Option (List D)
  | [.int j] => if smallI j = true then some (rngL 0 j.toNat) else none
  | [.int i, .int j] => if (smallI i && smallI j) = true then some (rngL i (j - i).toNat) else none
  | _ => none
def mRng (a : MA) : MA := fun env => (a env).bind fun xs e => ofO (rngD xs) e
theorem itr_rng {K : PySem.W.Frag} {F : Hp} (i : Int) (n : Nat) : Itr false K F (rngL i n) (L2.Itr i n) := by
  intro F' H ef eh k
  refine ⟨fun d hd => ?_, fun hl => by
    show n ≤ k
    simpa [rngL] using hl⟩
  unfold rngL at hd
  rw [List.getElem?_map] at hd
  obtain ⟨c, h1, rfl⟩ := Option.map_eq_some_iff.mp hd
  obtain ⟨h2, h3⟩ := List.getElem?_eq_some_iff.mp h1
  rw [List.getElem_range] at h3
  subst h3
  refine ⟨by
    show k < n
    simpa using h2, ?_⟩
  rintro x H' ⟨rfl, rfl⟩
  exact ⟨F', Gr.refl eh, rfl⟩
theorem smallI_iff {i : Int} (h : smallI i = true) : -(2 ^ 62) ≤ i ∧ i < 2 ^ 62 := by
  unfold smallI at h
  rw [Bool.and_eq_true, decide_eq_true_eq, decide_eq_true_eq] at h
  exact h
theorem sn_rng1 {K : PySem.W.Frag} {a : MD} {ta : TA} (ha : Sn K W (Dens K) emp ta (mCons a mNil)) : Sn K W (Itr false K) emp (iRng1 ta) (mRng (mCons a mNil)) := by
  intro F H σ env fp Q _ R h
  have hn := argN_cons (a := a) argN_nil
  unfold mRng at h
  refine ha F H σ env fp _ ex_emp R ?_
  cases hm : mCons a mNil env with
  | fail => rw [hm] at h; exact h
  | exc x e => rw [hm] at h; exact h
  | ok ds e =>
    rw [hm] at h
    have hl := hn _ _ _ hm
    intro F1 H1 fp1 vs P1 R1 d1
    have h1 := Out.step P1 h
    rw [Rs.bind_ok] at h1
    obtain ⟨c, ec, k⟩ := out_ofO R1 h1
    match ds, hl, ec with
    | [.int j], _, ec =>
      obtain ⟨a, rfl, q⟩ := one_den d1
      have q' : a = .int j := q
      subst q'
      by_cases hj : smallI j = true
      · have ec' : some (rngL 0 j.toNat) = some c := by rw [← ec]; exact (if_pos hj).symm
        cases ec'
        exact ⟨j, rfl, (smallI_iff hj).1, (smallI_iff hj).2, k F1 H1 _ (Gr.refl R1.ex) (itr_rng 0 _)⟩
      · have ec' : none = some c := by rw [← ec]; exact (if_neg hj).symm
        cases ec'
theorem pdi_range1 {e : Expr} {a : MD} {ta : TA} {p pos : Pos} (hg : Gl X "range") (hm : X.mg "range" = none) (ha : PDA X W [e] ta (mCons a mNil)) (hs : starEach [e] X.env = [(false, eval e X.env)] := by rfl) :
    PDI false X W tg (.Call (.Name "range" p) [e] [] pos) (iRng1 ta) (mRng (mCons a mNil)) := ⟨pi_range1 hg hm ha.pa hs, sn_rng1 ha.sn⟩
end
theorem meets_enumT (l : Addr) (items : Array Value) (n : Nat) (dct : Option Addr) (sl : Array (Option Value)) :
    Meets (Builtin.«enumerate.__new__» ⟨[.type "enumerate", .ref l], []⟩) (fun _ R s => s.heap.get? l = some { cls := .type "tuple", dict := dct, data := .seq items n, slots := sl } ∧
      R (.ok (.ret (.ref (s.heap.push { cls := .type "tuple_iterator", data := .fields #[.ref l, .int 0 0] }).objs.size)))
        { s with heap := (s.heap.push { cls := .type "tuple_iterator", data := .fields #[.ref l, .int 0 0] }).push { cls := .type "enumerate", data := .fields #[.none, .bool false, .ref s.heap.objs.size, rawInt 0, .none, .none] } }) :=
  .of_wp fun prog w A R s h => by
    obtain ⟨hp, g, d, tk, os⟩ := s
    obtain ⟨hl, h⟩ := h
    have hsub := sub_enumerate
    have hT : Heap.IsTuple (Shared.heap ⟨hp, g, d, tk, os⟩) l items := ⟨_, hl, rfl, n, rfl⟩
    wp_walk using AutoSeq1.wpAny_loadPart' hl
    refine wpAny_stack_any fun st => wpAny_pure ?_
    split
    · rename_i c _ _ _ _ _
      cases (c == Value.type "enumerate")
      all_goals
        wp_walk using AutoSeq1.wpAny_loadPart' hl, wpAny_pyIter_tuple hT
        exact ⟨_, rfl, h⟩
    · wp_walk using AutoSeq1.wpAny_loadPart' hl, wpAny_pyIter_tuple hT
      exact ⟨_, rfl, h⟩
end DD
namespace DD
open PySem PySem.Spec PyProof.Rows L2
theorem call_enumT {prog : Program} {w : World} {A : Around} {E : Value → Shared → Prop} {s : Shared} {l : Addr} {items : Array Value} {Q : Value → Shared → Prop} (hT : s.heap.IsTuple l items)
    (h : ∀ h', IsEnum h' (s.heap.objs.size + 1) s.heap.objs.size 0 .none → h'.IsTupleIter s.heap.objs.size l 0 → h'.objs.size = s.heap.objs.size + 2 →
      (∀ b o, s.heap.get? b = some o → h'.get? b = some o) → Q (.ref (s.heap.objs.size + 1)) { s with heap := h' }) :
    wpAny (model prog w) A (call (.type "enumerate") [.ref l]) Q E s := by
  obtain ⟨⟨c, dct, dt, sl⟩, hl, hc, n, hd⟩ := hT
  replace hc : c = .type "tuple" := hc
  replace hd : dt = .seq items n := hd
  subst hc hd
  refine callType_new F.called_enumerate (by decide) (F.typeCall_enumerate_1 _) (F.newCall_enumerate_1 _) (fun obj => F.args_object_init_2 obj _) F.entry_enumerate_new
    (meets_enumT l items n dct sl) ⟨hl, ?_⟩
  let i1 : Obj := { cls := .type "tuple_iterator", data := .fields #[.ref l, .int 0 0] }
  have sz : (s.heap.push i1).objs.size = s.heap.objs.size + 1 := Heap.size_push ..
  show _ ∧ _
  rw [show (s.heap.push { cls := .type "tuple_iterator", data := .fields #[.ref l, .int 0 0] }).objs.size = s.heap.objs.size + 1 from sz]
  have en : ∀ o2 : Obj, o2.isFreed = false → ((s.heap.push i1).push o2).get? (s.heap.objs.size + 1) = some o2 := fun o2 z => by
    have q := Heap.get?_push_size (s.heap.push i1) (o := o2) z
    rwa [sz] at q
  have he : IsEnum ((s.heap.push i1).push { cls := .type "enumerate", data := .fields #[.none, .bool false, .ref s.heap.objs.size, rawInt 0, .none, .none] }) (s.heap.objs.size + 1) s.heap.objs.size 0 .none := en _ rfl
  refine ⟨⟨_, he, rfl⟩, ?_⟩
  exact h _ he ⟨i1, Heap.get?_push_of_some _ (Heap.get?_push_size _ rfl), rfl, rfl⟩ (by rw [Heap.size_push, sz]) fun b o q => Heap.get?_push_of_some _ (Heap.get?_push_of_some _ q)
/-- the tuple at a, each item in a new pair -/
def ItE (K : PySem.W.Frag) (a : Addr) : It :=
  ⟨fun i H => ∃ (xs : List V) (x : V), SqT K H a xs ∧ xs[i]? = some x, fun i H v H' => ∃ T x, v = .ref T ∧ H T = none ∧ H' = upd H T (.tup [.int (i : Nat), x]) ∧ ∀ xs, SqT K H a xs → xs[i]? = some x, fun i H => ∃ xs : List V, SqT K H a xs ∧ xs.length ≤ i⟩
theorem turn_enumT {P : Program} {w : World} {K : PySem.W.Frag} {elts : List Expr} {kk : Nat} {tpos : Pos} (a e it : Addr) (he' : a ≠ e) (hi' : a ≠ it) :
    Turn P w K (.Tuple elts kk tpos) (ItE K a) [e, it] e (fun i h => (∃ old, IsEnum h e it ((i : Nat) : Int) old) ∧ h.IsTupleIter it a i ∧ e ≠ it) where
  mem := List.mem_cons_self
  obj := fun i h st b hb => by
    obtain ⟨⟨old, en⟩, ⟨o, ho, _, hd⟩, _⟩ := st
    rcases List.mem_cons.mp hb with z | z
    · rw [z]
      exact ⟨_, en, fun v q => by cases q⟩
    · rw [List.mem_singleton.mp z]
      exact ⟨o, ho, fun v q => by rw [hd] at q; cases q⟩
  keep := fun i h h' st k => by
    obtain ⟨⟨old, en⟩, ti, ne⟩ := st
    exact ⟨⟨old, k e (by simp) _ en⟩, ti.at fun o q => k it (by simp) o q, ne⟩
  item := by
    intro X hP hw hK hc i pins s σ H E I hf st hg
    subst hP hw hK
    obtain ⟨⟨old, en⟩, ti, ne⟩ := st
    obtain ⟨xs, x, hq, hx⟩ := hg
    obtain ⟨its, rv, p, hz⟩ := I.tuple hq
    obtain ⟨u, hu, ru⟩ := rv.get hx
    have lt_e : e < s.heap.objs.size := Heap.lt_size en
    have lt_i : it < s.heap.objs.size := by
      obtain ⟨_, q, _⟩ := ti
      exact Heap.lt_size q
    have hil : i < its.toArray.size := by
      have := (List.getElem?_eq_some_iff.mp hu).1
      simpa using this
    -- the tuple itself stands still: drawn from its own iterator
    have D := Draws.tuple (prog := X.prog) (w := X.w) (A := X.A.in1) (show X.A.in1.handled = none from I.ok.hd hc) it a hi' its.toArray
    by_cases hae : e ∈ [it, a]
    · rcases List.mem_cons.mp hae with z | z
      · exact absurd z ne
      · exact absurd (List.mem_singleton.mp z).symm he'
    refine wpAny_pyNext_enum_itemD D en ⟨ti, p⟩ hil ne hae fun y h' tk hy ho st' hT hsz hk => ?_
    have ey : u = y := by
      have hy' : its.toArray[i]? = some y := hy
      simp only [List.getElem?_toArray] at hy'
      rw [hu] at hy'
      exact Option.some.inj hy'
    subst ey
    refine ⟨_, rfl, wpAny_letOwnedTupleGo_enum (s := { s with heap := h', toks := tk + 1 }) ho fun h2 en2 sb => ?_⟩
    have hT2 : h2.get? s.heap.objs.size = some { cls := .type "tuple", data := .seq #[.int i tk, u] } := (sb.2 _ (Nat.ne_of_gt lt_e)).trans hT
    have hn : ObjOk X.prog X.w (upd H s.heap.objs.size (.tup [.int (i : Nat), x])) h2 s.heap.objs.size (.tup [.int (i : Nat), x]) :=
      ⟨show 2 ≤ sizeLine by decide, [.int i tk, u], .cons ⟨_, rfl⟩ (.cons ru .nil), ⟨_, hT2, rfl, _, rfl⟩⟩
    have I1 : Inv X pins σ (upd H s.heap.objs.size (.tup [.int (i : Nat), x])) { s with heap := h2, toks := tk + 1 } :=
      I.turnedNew (ch := [e, it]) (fun b ob hb q => by
        have n1 : b ≠ e := fun z => hb (by simp [z])
        have n2 : b ≠ it := fun z => hb (by simp [z])
        exact (sb.2 b n1).trans (hk b ob n1 n2 q)) hf (Nat.le_refl _) hn
    refine ⟨.ref s.heap.objs.size, _, I1, rfl, ⟨_, x, rfl, I.hok.fresh (Nat.le_refl _), rfl, fun ys hy => by rw [I.tuple_inj hy hq]; exact hx⟩, ⟨⟨u, ?_⟩, st'.1.at fun o q => (sb.2 it (Ne.symm ne)).trans q, ne⟩, fun b hb => ?_⟩
    · rw [show ((i + 1 : Nat) : Int) = (i : Int) + 1 by omega]
      exact en2
    · have lt_b : b < s.heap.objs.size := by
        rcases List.mem_cons.mp hb with z | z
        · rw [z]
          exact lt_e
        · rw [List.mem_singleton.mp z]
          exact lt_i
      rw [upd_ne (Nat.ne_of_lt lt_b)]
      exact (hf b hb).1
  done := by
    intro X hP hw hK hc i pins s σ H E I hf st hg
    subst hP hw hK
    obtain ⟨⟨old, en⟩, ti, ne⟩ := st
    obtain ⟨xs, hq, hx⟩ := hg
    obtain ⟨its, rv, p, hz⟩ := I.tuple hq
    obtain ⟨f0, f1, f2, f3, f4, f5⟩ := hf it (by simp)
    have ei : its.toArray[i]? = none := by
      have := rv.length
      simp
      omega
    -- nothing more is drawn
    have D : Draws X.prog X.w X.A.in1 it [it, a] i (fun _ _ => True) (fun j h => i ≤ j ∧ h.IsTupleIter it a j ∧ h.IsTuple a its.toArray) :=
      ⟨fun _ _ z => ⟨_, z.2.1.choose_spec.1⟩, fun _ _ _ z k => ⟨z.1, z.2.1.at fun o q => k it (by simp) o q, z.2.2.at fun o q => k a (by simp) o q⟩, fun j s Q E lt z => absurd z.1 (Nat.not_le_of_lt lt),
        fun s Q E z k => wpAny_nextOf_tuple_end (show X.A.in1.handled = none from I.ok.hd hc) z.2.1 z.2.2 ei k⟩
    exact wpAny_pyNext_enum_endD D en ⟨Nat.le_refl i, ti, p⟩ fun h' eb => ⟨rfl, I.turned (t' := s.toks) (fun b o hb q => eb b o hb q) f0 f1 f3 f4 f5⟩
  self := fun A i s Q E st h => by
    obtain ⟨⟨_, en⟩, _⟩ := st
    exact wpAny_pyIter_enum en h
def iEnumT (K : PySem.W.Frag) (ta : TA) : TI := fun σ H R => ta σ H fun vs H1 => ∃ a xs, vs = [.ref a] ∧ SqT K H1 a xs ∧ R (ItE K a) H1
theorem pi_enumT {X : Cx} {e : Expr} {ta : TA} {p pos tpos : Pos} {elts : List Expr} {kk : Nat} (hg : Gl X "enumerate") (hm : X.mg "enumerate" = none) (ha : PA X [e] ta) (hs : starEach [e] X.env = [(false, eval e X.env)] := by rfl) :
    PI X (.Tuple elts kk tpos) (.Call (.Name "enumerate" p) [e] [] pos) (iEnumT X.K ta) := by
  constructor
  intro pins s σ H R I h
  refine Call_ (ld_blt I hg hm boot_enumerate (PyProof.Rows.callWith_type1 (thn (ha.run pos pins s σ H _ I h) ?_) hs rfl))
  rintro us s1 ⟨_, H1, I1, r1, a, xs, rfl, hq, q⟩
  obtain ⟨u, rfl, r⟩ := vals1 r1
  cases r
  obtain ⟨its, rv, p', hz⟩ := I1.tuple hq
  have la : a < s1.heap.objs.size := by
    obtain ⟨_, w, _⟩ := p'
    exact Heap.lt_size w
  refine call_enumT (show s1.heap.IsTuple a its.toArray from p') fun h' en hit hsz hk => wpAny_pyIter_enum en ?_
  have I2 : Inv X pins σ H1 { s1 with heap := h' } := I1.kept (t' := s1.toks) hk
  refine ⟨_, [s1.heap.objs.size + 1, s1.heap.objs.size], _, _, H1, rfl, I2, turn_enumT a (s1.heap.objs.size + 1) s1.heap.objs.size (Nat.ne_of_lt (Nat.lt_succ_of_lt la)) (Nat.ne_of_lt la), ⟨⟨.none, en⟩, hit, Nat.succ_ne_self _⟩, fun b hb => ?_, q⟩
  have hle : s1.heap.objs.size ≤ b := by
    rcases List.mem_cons.mp hb with z | z
    · rw [z]
      exact Nat.le_succ _
    · rw [List.mem_singleton.mp z]
      exact Nat.le_refl _
  exact I1.fpOk hle (I1.hok.fresh hle)
def enumL : Nat → List D → List D
  | _, [] => []
  | i, d :: ds => .tup [.int (i : Nat), d] :: enumL (i + 1) ds
theorem enumL_get : ∀ (k : Nat) (ds : List D) (i : Nat), (enumL k ds)[i]? = (ds[i]?).map fun d => D.tup [.int ((k + i : Nat) : Int), d]
  | k, [], i => by simp [enumL]
  | k, d :: ds, 0 => by simp [enumL]
  | k, d :: ds, i + 1 => by
    have := enumL_get (k + 1) ds i
    unfold enumL
    rw [List.getElem?_cons_succ, List.getElem?_cons_succ, this, show k + 1 + i = k + (i + 1) by omega]
theorem enumL_length : ∀ (k : Nat) (ds : List D), (enumL k ds).length = ds.length
  | k, [] => rfl
  | k, d :: ds => by rw [enumL, List.length_cons, List.length_cons, enumL_length (k + 1) ds]
def enumD : D → Option (List D)
  | .lst ds => some (enumL 0 ds)
  | .tup ds => some (enumL 0 ds)
  | .scr ns => some (enumL 0 (ns.map .int))
  | _ => none
def mEnum (a : MD) : MA := fun env => (a env).bind fun x e => ofO (enumD x) e
abbrev iEnD (K : PySem.W.Frag) (ta : TA) : TI := fun σ H R => iEnum K ta σ H R ∨ iEnumT K ta σ H R
theorem itr_en {K : PySem.W.Frag} {F : Hp} {J : It} {vs : List V} {ds : List D} (hgo : ∀ H i x, FA F H → vs[i]? = some x → J.go i H) (hst : ∀ H i, FA F H → vs.length ≤ i → J.stop i H)
    (hy : ∀ H i v H', FA F H → J.yld i H v H' → ∃ T x, v = .ref T ∧ H T = none ∧ H' = upd H T (.tup [.int (i : Nat), x]) ∧ vs[i]? = some x) (hd : Dens K F ds vs) : Itr true K F (enumL 0 ds) J := by
  intro F' H ef eh i
  refine ⟨fun d hd' => ?_, fun hl => hst H i (FA.of ef eh.toFA) (by rw [← Dens.length hd]; rwa [enumL_length] at hl)⟩
  rw [enumL_get] at hd'
  obtain ⟨d0, h0, rfl⟩ := Option.map_eq_some_iff.mp hd'
  obtain ⟨v, h1, h2⟩ := Dens.get hd h0
  refine ⟨hgo H i v (FA.of ef eh.toFA) h1, fun x H' y => ?_⟩
  obtain ⟨T, x', rfl, hT, rfl, h3⟩ := hy H i x H' (FA.of ef eh.toFA) y
  rw [h1] at h3
  cases h3
  have g := Gr.new (o := .tup [.int (i : Nat), v]) eh hT
  refine ⟨_, g, show Denw _ _ _ _ from .inr ⟨_, T, _, rfl, rfl, .inl upd_same, .int (i : Nat), _, rfl, ?_, v, _, rfl, Den.mono (ef.trans g.f) d0 v h2, rfl⟩⟩
  show V.int _ = V.int _
  rw [Nat.zero_add]
theorem sn_enum {W : WX} {K : PySem.W.Frag} {me : MD} {ta : TA} (ha : Sn K W (Dens K) emp ta (mCons me mNil)) : Sn K W (Itr true K) emp (iEnD K ta) (mEnum me) := by
  intro F H σ env fp Q _ R h
  have fin : ∀ (t : TI) (P : D → Prop) (k : V → Hp → (It → Hp → Prop) → Prop), (∀ σ H R, t σ H R = ta σ H fun vs H1 => ∃ x, vs = [x] ∧ k x H1 R) →
      (∀ e x, me env = .ok x e → P x) → (∀ F1 H1 x v ds, FH F1 H1 → Den K F1 x v → P x → enumD x = some ds → ∀ R : It → Hp → Prop, (∀ J, Itr true K F1 ds J → R J H1) → k v H1 R) → t σ H Q := by
    intro t P k ht hP hk
    rw [ht]
    have hP' := hP
    refine ha F H σ env fp _ ex_emp R ?_
    unfold mEnum at h
    unfold mCons mNil
    generalize me env = r at h hP'
    cases r with
    | ok x e =>
      intro F1 H1 fp1 vs P1 R1 d1
      obtain ⟨v, rfl, d2⟩ := one_den d1
      have h1 := Out.step P1 h
      rw [Rs.bind_ok] at h1
      cases hi : enumD x with
      | none => rw [hi] at h1; exact h1.elim
      | some ds =>
        rw [hi] at h1
        exact ⟨v, rfl, hk F1 H1 x v ds R1.ex d2 (hP' e x rfl) hi _ fun J hJ => h1 F1 H1 fp1 J Po.refl R1 hJ⟩
    | exc x e => exact h
    | fail => exact h
  have L := fin (iEnum K ta) (fun x => (∃ ds, x = .lst ds) ∨ ∃ ns, x = .scr ns) (fun x H1 R => ∃ a xs, x = .ref a ∧ SqL K H1 a xs ∧ R (Ite K a) H1) (fun σ H R => by
    unfold iEnum
    congr
    funext vs H1
    apply propext
    exact ⟨fun ⟨a, xs, e1, z⟩ => ⟨.ref a, e1, a, xs, rfl, z⟩, fun ⟨x, e1, a, xs, e2, z⟩ => ⟨a, xs, by rw [e1, e2], z⟩⟩)
  have T := fin (iEnumT K ta) (fun x => ∃ ds, x = .tup ds) (fun x H1 R => ∃ a xs, x = .ref a ∧ SqT K H1 a xs ∧ R (ItE K a) H1) (fun σ H R => by
    unfold iEnumT
    congr
    funext vs H1
    apply propext
    exact ⟨fun ⟨a, xs, e1, z⟩ => ⟨.ref a, e1, a, xs, rfl, z⟩, fun ⟨x, e1, a, xs, e2, z⟩ => ⟨a, xs, by rw [e1, e2], z⟩⟩)
  have tup : (∀ e x, me env = .ok x e → ∃ ds, x = .tup ds) → iEnD K ta σ H Q := fun hP => .inr (T hP fun F1 H1 x v ds e1 d1 hx hi R k => by
    obtain ⟨ds', rfl⟩ := hx
    cases hi
    obtain ⟨a, o, vs, rfl, h1, _, h2⟩ := d1
    have hu : ∀ H, FA F1 H → SqT K H a vs := fun H eh => .inl (.inr ⟨o, eh.at_ _ _ h1 rfl⟩)
    refine ⟨a, vs, rfl, hu H1 e1.toFA, k _ (itr_en (vs := vs) (fun H i x eh hx => ⟨vs, x, hu H eh, hx⟩) (fun H i eh hl => ⟨vs, hu H eh, hl⟩) (fun H i v H' eh y => ?_) h2)⟩
    obtain ⟨T, x, a1, a2, a3, a4⟩ := y
    exact ⟨T, x, a1, a2, a3, a4 vs (hu H eh)⟩)
  have lst : ∀ (P : D → Prop), (∀ x, P x → (∃ ds, x = .lst ds) ∨ ∃ ns, x = .scr ns) → (∀ e x, me env = .ok x e → P x) → iEnD K ta σ H Q := fun P hPx hP => .inl (L (fun e x q => hPx x (hP e x q)) fun F1 H1 x v ds e1 d1 hx hi R k => by
    have main : ∀ (a : Addr) (vs : List V) (es : List D), (∀ H, FA F1 H → SqL K H a vs) → Dens K F1 es vs → ds = enumL 0 es → v = .ref a → ∃ a xs, v = .ref a ∧ SqL K H1 a xs ∧ R (Ite K a) H1 := fun a vs es hu h2 ed ev => by
      subst ed ev
      refine ⟨a, vs, rfl, hu H1 e1.toFA, k _ (itr_en (vs := vs) (fun H i x eh hx => ⟨vs, x, hu H eh, hx⟩) (fun H i eh hl => ⟨vs, hu H eh, hl⟩) (fun H i v H' eh y => ?_) h2)⟩
      obtain ⟨T, x, a1, a2, a3, a4⟩ := y
      exact ⟨T, x, a1, a2, a3, a4 vs (hu H eh)⟩
    rcases hx with ⟨ds', rfl⟩ | ⟨ns, rfl⟩
    · cases hi
      obtain ⟨a, vs, rfl, h1, h2⟩ := d1
      exact main a vs _ (fun H eh => .inl (eh.rd h1)) h2 rfl rfl
    · cases hi
      obtain ⟨a, rfl, h1⟩ := d1
      exact main a _ _ (fun H eh => eh.l h1) (dens_ints ns) rfl rfl)
  cases hm : me env with
  | ok x e =>
    cases x with
    | tup ds => exact tup fun e' x' q => by rw [hm] at q; cases q; exact ⟨_, rfl⟩
    | lst ds => exact lst (fun x => (∃ ds, x = .lst ds) ∨ ∃ ns, x = .scr ns) (fun _ z => z) fun e' x' q => by rw [hm] at q; cases q; exact .inl ⟨_, rfl⟩
    | scr ds => exact lst (fun x => (∃ ds, x = .lst ds) ∨ ∃ ns, x = .scr ns) (fun _ z => z) fun e' x' q => by rw [hm] at q; cases q; exact .inr ⟨_, rfl⟩
    | _ =>
      unfold mEnum at h
      rw [hm] at h
      exact h.elim
  | exc x e => exact tup fun e' x' q => by rw [hm] at q; cases q
  | fail =>
    unfold mEnum at h
    rw [hm] at h
    exact h.elim
theorem pdi_enum {X : Cx} {W : WX} {e : Expr} {ta : TA} {me : MD} {p pos tpos : Pos} {elts : List Expr} {kk : Nat} (hg : Gl X "enumerate") (hm : X.mg "enumerate" = none) (ha : PDA X W [e] ta (mCons me mNil)) (hs : starEach [e] X.env = [(false, eval e X.env)] := by rfl) :
    PDI true X W (.Tuple elts kk tpos) (.Call (.Name "enumerate" p) [e] [] pos) (iEnD X.K ta) (mEnum me) := ⟨pi_or (pi_enum hg hm ha.pa hs) (pi_enumT hg hm ha.pa hs), sn_enum ha.sn⟩
end DD
namespace DD
open PySem PySem.Spec PyProof.Rows L2
section
variable {K : PySem.W.Frag} {F F' H H' : Hp} {σ : L2.St} {env : DEnv} {fp : List Addr}
theorem owns_length : ∀ {os : List O} {vs : List V} {fp : List Addr}, OwnsAt K F H os vs fp → os.length = vs.length
  | [], vs, fp, ⟨h, _⟩ => by rw [h]; rfl
  | o :: os, vs, fp, ⟨x, xs, f1, f2, r, s, h, t⟩ => by rw [r, List.length_cons, List.length_cons, owns_length t]
theorem owns_append : ∀ {os us : List O} {vs ws : List V} {fp gp : List Addr}, OwnsAt K F H os vs fp → OwnsAt K F H us ws gp → OwnsAt K F H (os ++ us) (vs ++ ws) (fp ++ gp)
  | [], us, vs, ws, fp, gp, ⟨h, e⟩, k => by
    subst h e
    exact k
  | o :: os, us, vs, ws, fp, gp, ⟨x, xs, f1, f2, r, s, h, t⟩, k => by
    subst r s
    exact ⟨x, xs ++ ws, f1, f2 ++ gp, rfl, by simp, h, owns_append t k⟩
theorem owns_snoc {os : List O} {d : D} {vs : List V} {v : V} {fp : List Addr} (h : OwnsAt K F H os vs fp) (k : Den K F d v) : OwnsAt K F H (os ++ [.d d]) (vs ++ [v]) fp := by
  have := owns_append h (us := [.d d]) (ws := [v]) (gp := []) ⟨v, [], [], [], rfl, rfl, ⟨k, rfl⟩, rfl, rfl⟩
  rwa [List.append_nil] at this
theorem owns_upd {os : List O} {vs : List V} {fr : List Addr} {a : Addr} {u : HO} (h : OwnsAt K F H os vs fr) (nd : (a :: fr).Nodup) : OwnsAt K F (upd H a u) os vs fr :=
  OwnsAt.mono (Ex.refl _) os vs fr (fun b hb => upd_ne fun z => (List.nodup_cons.mp nd).1 (z ▸ hb)) h
end
section
variable {X : Cx} {W : WX} {fx : List Nat} {pos apos npos : Pos} {x : Str} {e : Expr} {te : TE} {me : MD} {i : Nat}
def mApp (i : Nat) (me : MD) : MS := fun env => match env[i]? with
  | some (some (.lst _)) => (me env).on fun d e => (match e[i]? with
    | some (some (.lst os)) => if os.length < sizeLine then .nx (e.set i (some (.lst (os ++ [.d d])))) else .fail
    | _ => .fail)
  | _ => .fail
theorem pds_append (hx : PE X (.Name x npos) (tVar i)) (he : PD X W e te me)
    (hbase : attributeBase (.Name x npos) "append" X.env (eval (.Name x npos) X.env) = eval (.Name x npos) X.env := by rfl)
    (hfew : ((backTo pos (starEach [e] X.env)).all (fun x => !x.1) && (backToKw pos (keywordEach [] X.env)).all (fun x => x.1.isSome)
      && decide ([e].length + ([] : List Keyword).length + (if ([] : List Keyword).isEmpty then 0 else 1) < 30)) = true := by rfl)
    (hline : (apos.endLine == pos.line) = true := by rfl) (hs : starEach [e] X.env = (false, eval e X.env) :: starEach [] X.env := by rfl) (hplain : (backTo pos (starEach [] X.env)).any (·.1) = false := by rfl)
    (hsw : swapsWith (.Call (.Attribute (.Name x npos) "append" apos) [e] [] pos) none pos.line X.env = pure false := by rfl) :
    PDS X W fx (.Expr (.Call (.Attribute (.Name x npos) "append" apos) [e] [] pos) pos) (tDrop (tBM X.K "list" rAppend (tVar i) (tCons te tNil))) (mApp i me) := by
  refine ⟨ps_expr (pe_bm F.plainAttrs_list F.slot_list_append F.type_list_append mt_append hx (pa_cons he.pe pa_nil hs) hbase hfew hline hs hplain) hsw, fun F H σ env fp D' R h => ?_⟩
  unfold mApp at h
  split at h
  case h_2 => exact h.elim
  rename_i os0 e0
  obtain ⟨v0, f00, s0, ⟨a0, vs0, fr0, ev0, _, h0, _⟩, _⟩ := R.own e0
  subst ev0
  refine ⟨.ref a0, s0, .inl ⟨rfl, vs0, .inl (.inl h0)⟩, ?_⟩
  refine he.sn.goS ex_emp R h fun F1 H1 fp1 env1 d v P1 R1 d1 h1 => ?_
  split at h1
  case h_2 => exact h1.elim
  rename_i os e1
  obtain ⟨v1, f01, s1, ⟨a1, vs1, fr1, ev1, ef1, hH1, ow1⟩, nd1, _, up⟩ := R1.own e1
  subst ev1 ef1
  rw [s0] at s1
  cases s1
  by_cases hz : os.length < sizeLine
  · rw [if_pos hz] at h1
    refine ⟨a0, vs1, v, rfl, rfl, hH1, by rw [← owns_length ow1]; exact hz, ?_⟩
    obtain ⟨fp2, R2, P2⟩ := up a0 (.lst (vs1 ++ [v])) (.lst (os ++ [.d d])) List.mem_cons_self ⟨a0, vs1 ++ [v], fr1, rfl, rfl, upd_same, owns_snoc (owns_upd ow1 nd1) d1⟩
    exact h1 F1 _ σ fp2 P2 Fx.refl R2
  · rw [if_neg hz] at h1
    exact h1.elim
theorem owns_set {K : PySem.W.Frag} {F H : Hp} {d : D} {v : V} (k : Den K F d v) : ∀ {os : List O} {vs : List V} {fp : List Addr} (j : Nat) {y : D}, OwnsAt K F H os vs fp → os[j]? = some (.d y) → OwnsAt K F H (os.set j (.d d)) (vs.set j v) fp
  | [], _, _, j, y, _, e => by simp at e
  | o :: os, vs, fp, 0, y, ⟨x, xs, f1, f2, r, s, h, t⟩, e => by
    have e' : o = .d y := by simpa using e
    subst e' r s
    exact ⟨v, xs, f1, f2, rfl, rfl, ⟨k, h.2⟩, t⟩
  | o :: os, vs, fp, j + 1, y, ⟨x, xs, f1, f2, r, s, h, t⟩, e => by
    subst r s
    exact ⟨x, _, f1, f2, rfl, rfl, h, owns_set k j t (by simpa using e)⟩
/-- the place of a list of frozen things -/
def setO (os : List O) (k : Int) (d : D) : Option (List O) := (ixN os.length k).bind fun j => match os[j]? with
  | some (.d _) => some (os.set j (.d d))
  | _ => none
def gIx (i : Nat) (mi : MD) : D → DEnv → Option DEnv := fun d env => match mi env with
  | .ok (.int k) e => (match e[i]? with
    | some (some (.lst os)) => (setO os k d).map fun os' => e.set i (some (.lst os'))
    | _ => none)
  | _ => none
theorem pdg_ix {o ie : Expr} {ti : TE} {mi : MD} {p : Pos} (hx : PE X o (tVar i)) (hi : PD X W0 ie ti mi)
    (ha : ∀ v, assign (.Subscript o ie p) X.env v = (do
      let ov ← holding [v] (eval o X.env)
      let iv ← holding [v, ov] (eval ie X.env)
      standAt p
      holding [v, ov, iv] (setItem ov iv v)
      release [v, ov, iv] []) := by intro _; rfl) (hp : ∀ env d e', mi env = .ok d e' → e'[i]? = env[i]? := by intro _ _ _ h; first | (cases h; rfl) | assumption) : PDG false X [] (.Subscript o ie p) (gSub (tVar i) ti rSetL) (gIx i mi) := by
  refine ⟨pg_sub hx hi.pe set_list ha, fun F H σ env env' fp d v Q R hd he k => ?_⟩
  unfold gIx at he
  split at he
  case h_2 => cases he
  rename_i kk e1 hm
  split at he
  case h_2 => cases he
  rename_i os e2
  obtain ⟨os', hset, rfl⟩ := Option.map_eq_some_iff.mp he
  have e0 : env[i]? = some (some (.lst os)) := by rw [← hp _ _ _ hm]; exact e2
  obtain ⟨v0, f00, s0, ⟨a0, vs0, fr0, ev0, _, h0, _⟩, _⟩ := R.own e0
  subst ev0
  refine ⟨.ref a0, s0, ?_⟩
  refine hi.sn F H σ env fp _ ex_emp R ?_
  rw [hm]
  intro F1 H1 fp1 iv P1 R1 d1
  have d1' : iv = .int kk := d1
  subst d1'
  obtain ⟨v1, f01, s1, ⟨a1, vs1, fr1, ev1, ef1, hH1, ow1⟩, nd1, _, up⟩ := R1.own e2
  subst ev1 ef1
  rw [s0] at s1
  cases s1
  unfold setO at hset
  obtain ⟨j, hj, hset⟩ := Option.bind_eq_some_iff.mp hset
  split at hset
  case h_2 => cases hset
  rename_i y hy
  cases hset
  refine ⟨a0, vs1, kk, j, rfl, rfl, hH1, by rw [← owns_length ow1]; exact hj, ?_⟩
  have dv : Den X.K F1 d v := Den.mono P1.f d v hd
  obtain ⟨fp2, R2, P2⟩ := up a0 (.lst (vs1.set j v)) (.lst (os.set j (.d d))) List.mem_cons_self ⟨a0, _, fr1, rfl, rfl, upd_same, owns_set dv j (owns_upd ow1 nd1) hy⟩
  exact k F1 _ σ fp2 (P1.trans P2) R2 rfl fun _ _ => rfl
def mD (a : MD) : MO := fun env => (a env).bind fun d e => .ok (.d d) e
def mPar2 (i j : Nat) (a b : MO) : MS := fun env => (a env).on fun o e1 => (b e1).on fun o' e2 => if i < e2.length ∧ j < e2.length then .nx ((e2.set i (some o)).set j (some o')) else .fail
/-- an owned list display of frozen things -/
def mLstO (m : MA) : MO := fun env => (m env).bind fun ds e => if ds.length ≤ sizeLine then .ok (oL ds) e else .fail
theorem pdo_lst {es : List Expr} {t : TA} {m : MA} (h : PDA X W es t m) : PDO X W (.List es pos) (tLst t) (mLstO m) := by
  refine ⟨pe_lst h.pa, fun F H σ env fp Q R hq => ?_⟩
  unfold mLstO at hq
  refine h.sn F H σ env fp _ ex_emp R ?_
  cases hm : m env with
  | ok ds e1 =>
    rw [hm] at hq
    rw [Rs.bind_ok] at hq
    intro F1 H1 fp1 vs P1 R1 dv
    by_cases hz : ds.length ≤ sizeLine
    · rw [if_pos hz] at hq
      refine ⟨by rw [← Dens.length dv]; exact hz, fun p hp => ?_⟩
      obtain ⟨N0, N1⟩ := R1.newO (o := oL ds) hp (own_oL upd_same dv)
      exact hq F1 _ [p] fp1 (.ref p) (P1.trans N1) N0
    · rw [if_neg hz] at hq
      exact hq.elim
  | exc y e1 =>
    rw [hm] at hq
    exact hq
  | fail =>
    rw [hm] at hq
    exact hq
end
end DD
namespace DD
open PySem PySem.Spec PyProof.Rows L2
/-- nothing on the heap -/
def flatD : D → Bool
  | .non => true
  | .bl _ => true
  | .int _ => true
  | .str _ => true
  | _ => false
theorem flat_den {K : PySem.W.Frag} {F F' : Hp} : ∀ {d : D} {v : V}, flatD d = true → Den K F d v → Den K F' d v
  | .non, _, _, h => h
  | .bl _, _, _, h => h
  | .int _, _, _, h => h
  | .str _, _, _, h => h
section
variable {K : PySem.W.Frag} {F F' H H' : Hp} {σ : L2.St} {env : DEnv} {fp : List Addr}
theorem Rel.peek {i : Nat} {o : O} (R : Rel K F H σ env fp) (e : env[i]? = some (some o)) (hnd : noD o = true) :
    ∃ v F', σ[i]? = some (some v) ∧ Ex F F' ∧ FH F' H ∧ Den K F' (fz o) v ∧ ∀ F2 H2, Gr F' H F2 H2 → ∃ F3, Po F H fp F3 H2 fp ∧ Rel K F3 H2 σ env fp := by
  obtain ⟨v, f0, fr, s1, own, nd, out0, sub, _, _⟩ := R.split e
  have e1 : Ex F (frzF F H f0) := frzF_ex out0
  have lk : Lk f0 H H := Lk.refl (OwnAt.nodc o v f0 hnd own)
  refine ⟨v, frzF F H f0, s1, e1, frzF_fh R.ex lk out0 (fun a ha => OwnAt.dom o v f0 own a ha), OwnAt.fz e1 lk o v f0 (fun a ha => ⟨ha, frzF_in ha⟩) own, fun F2 H2 g => ?_⟩
  -- what is owned taken out of the ground again
  let F3 : Hp := fun a => if a ∈ f0 then none else F2 a
  have f3in : ∀ a, a ∈ f0 → F3 a = none := fun a ha => if_pos ha
  have f3ne : ∀ a, a ∉ f0 → F3 a = F2 a := fun a ha => if_neg ha
  have hF3 : Ex F F3 := fun a u h => by
    have ha : a ∉ f0 := fun z => by rw [out0 a z] at h; cases h
    rw [f3ne a ha]
    exact g.f a u (e1 a u h)
  have out3 : ∀ a u, F a = none → Hs H a u → F3 a = none := fun a u h1 h2 => by
    by_cases ha : a ∈ f0
    · exact f3in a ha
    · rw [f3ne a ha]
      exact g.out a u (by rw [frzF_ne ha]; exact h1) h2
  refine ⟨F3, ⟨hF3, fun a u h _ => g.h a u h, fun a h => .inl h, fun a u h1 h2 _ => out3 a u h1 h2⟩, ⟨⟨⟨fun a u h n => ?_⟩, fun a pt h => ?_⟩, R.at_.mono hF3 fun a ha => ?_, R.nd, fun a ha => ?_⟩⟩
  · by_cases ha : a ∈ f0
    · rw [f3in a ha] at h
      cases h
    · rw [f3ne a ha] at h
      exact g.fh.at_ a u h n
  · by_cases ha : a ∈ f0
    · rw [f3in a ha] at h
      cases h
    · rw [f3ne a ha] at h
      obtain ⟨q, t, q1, pt', q2, q3, q4⟩ := g.fh.tb a pt h
      refine ⟨q, t, q1, pt', q2, q3, fun pos cv hc => ?_⟩
      obtain ⟨c, q5, q6⟩ := q4 pos cv hc
      refine ⟨c, q5, ?_⟩
      rw [f3ne c fun z => ?_]
      · exact q6
      · obtain ⟨u, hu⟩ := OwnAt.dom o v f0 own c z
        have q7 := (g.h c u hu.e).of (tb_tp hu.n)
        rw [g.fh.at_ c _ q6 rfl] at q7
        cases q7
        have := hu.n
        cases this
  · obtain ⟨u, hu⟩ := R.at_.dom a ha
    rw [hu.e, (g.h a u hu.e).of (tb_tp hu.n)]
  · obtain ⟨u, hu⟩ := R.at_.dom a ha
    exact out3 a u (R.out a ha) hu
end
def flatO (z : Option D) : Option D := match z with
  | some d => if flatD d = true then some d else none
  | none => none
theorem flatO_some {z : Option D} {d : D} (h : flatO z = some d) : z = some d ∧ flatD d = true := by
  unfold flatO at h
  cases z with
  | none => cases h
  | some x =>
    dsimp only at h
    split at h
    · rename_i hx
      cases h
      exact ⟨rfl, hx⟩
    · cases h
/-- f(slot i, b) -/
def mOpL (f : D → D → Option D) (i : Nat) (b : MD) : MD := fun env => match env[i]? with
  | some (some _) => (b env).bind fun y e => (match e[i]? with
    | some (some o) => if noD o = true then ofO (flatO (f (fz o) y)) e else .fail
    | _ => .fail)
  | _ => .fail
theorem sn_opL {K : PySem.W.Frag} {W : WX} {i : Nat} {tb : TE} {mb : MD} {r : R2} {f : D → D → Option D} (hb : Sn K W (Den K) emp tb mb) (hf : OpD K r f) : Sn K W (Den K) emp (tOp r (tVar i) tb) (mOpL f i mb) := by
  intro F H σ env fp Q _ R h
  unfold mOpL at h
  split at h
  case h_2 => exact h.elim
  rename_i o0 e0
  obtain ⟨v0, _, s0, _, _⟩ := R.own e0
  refine ⟨v0, s0, ?_⟩
  refine hb.go ex_emp R h fun F1 H1 fp1 env1 y u P1 R1 d1 h1 => ?_
  split at h1
  case h_2 => exact h1.elim
  rename_i o e1
  by_cases hnd : noD o = true
  case neg =>
    rw [if_neg hnd] at h1
    exact h1.elim
  rw [if_pos hnd] at h1
  obtain ⟨v1, F', s1, x1, x2, d2, back⟩ := R1.peek e1 hnd
  rw [s0] at s1
  cases s1
  cases hz : flatO (f (fz o) y) with
  | none => rw [hz] at h1; exact h1.elim
  | some z =>
    rw [hz] at h1
    obtain ⟨q1, q2⟩ := flatO_some hz
    refine hf F' H1 (fz o) y v0 u z x2 d2 (Den.mono x1 y u d1) q1 Q fun F2 H2 c g dc => ?_
    obtain ⟨F3, P3, R3⟩ := back F2 H2 g
    exact h1 F3 H2 fp1 c P3 R3 (flat_den q2 dc)
section
variable {X : Cx} {W : WX} {fx : List Nat} {pos p apos npos : Pos} {x : Str} {a b e o : Expr} {es : List Expr} {ta tb te : TE} {ma mb me : MD} {t : TA} {m : MA} {i : Nat}
theorem pd_ixO {r : R2} {f : D → D → Option D} (ho : IxR X r) (hf : OpD X.K r f) (hx : PE X (.Name x npos) (tVar i)) (hi : PD X W b tb mb) (hs : PlainIx b := by exact fun _ _ => rfl) : PD X W (.Subscript (.Name x npos) b pos) (tOp r (tVar i) tb) (mOpL f i mb) := ⟨pe_ix ho hx hi.pe hs, sn_opL hi.sn hf⟩
end
end DD
namespace DD
open PySem PySem.Spec PyProof.Rows L2
end DD
namespace DD
open PySem PySem.Spec PyProof.Rows L2
section
variable {X : Cx} {W : WX} {fx : List Nat} {pos p apos npos : Pos} {x : Str} {a b c e o : Expr} {es : List Expr} {ta tb tc te : TE} {ma mb mc me : MD} {t : TA} {m : MA} {i : Nat}
def tyN : D → Option String
  | .non => some "NoneType"
  | .bl _ => some "bool"
  | .int _ => some "int"
  | .str _ => some "str"
  | .tup _ => some "tuple"
  | .lst _ => some "list"
  | .wtp _ => some "tuple"
  | .dct _ _ => some "dict"
  | .dtt _ _ => none
  | .ins _ _ _ => none
  | .exn _ _ _ => none
  | .scr _ => none
def isT (n T : String) : Bool := (n == T) || ((n == "bool") && (T == "int"))
def isiD (T : String) (d : D) : Option D := (tyN d).map fun n => .bl (isT n T)
def mCallE (f : O → List D → RI) (a : MO) (m : MA) : MD := fun env => (a env).bind fun o e1 => (m e1).bind fun ds e2 => match f o ds with
  | .ok d _ => .ok d e2
  | .exc x _ => .exc x e2
  | _ => .fail
theorem sn_callE {K : PySem.W.Frag} {n : Nat} {f : O → List D → RI} {mo : MO} (ha : SnO K W ta mo) (h : Sn K W (Dens K) emp t m) (hn : ArgN n m) : Sn K W (Den K) emp (tCallS (spI K n f) (WE W) (tCons ta t)) (mCallE f mo m) := by
  intro F H σ env fp Q _ R hq
  unfold mCallE at hq
  refine ha F H σ env fp _ R ?_
  cases hm : mo env with
  | fail => rw [hm] at hq; exact hq
  | exc x e => rw [hm] at hq; exact hq
  | ok o e1 =>
    rw [hm] at hq
    intro F1 H1 f1 f2 v P1 R1
    have h1 := Out.step P1 hq
    rw [Rs.bind_ok] at h1
    refine h F1 H1 σ e1 f2 _ ex_emp R1.rel ?_
    cases hm2 : m e1 with
    | fail => rw [hm2] at h1; exact h1
    | exc x e =>
      rw [hm2] at h1
      exact fun F' H' fp' c dd P R' z => h1 F' H' fp' c dd ⟨P.f, fun a u h n => P.keep a u h fun z => n (List.mem_append_right _ z), fun a ha => (P.fresh a ha).imp (List.mem_append_right _) id, fun a u g1 g2 n => P.out a u g1 g2 fun z => n (List.mem_append_right _ z)⟩ R' z
    | ok ds e2 =>
      rw [hm2] at h1
      intro F2 H2 f3 vs P2 R2 d2
      obtain ⟨R3, P3⟩ := R1.frame P2 R2
      have h3 := Out.step P3 h1
      rw [Rs.bind_ok] at h3
      have nd := List.nodup_append.mp R3.nd
      have dom := OwnAt.dom o v f1 R3.own
      refine ⟨by rw [List.length_cons, ← Dens.length d2, hn _ _ _ hm2], F2, o, ds, f1, v, vs, rfl, ⟨R3.ex, R3.at_.mk⟩, R3.own, nd.1, fun a ha => R3.out a (List.mem_append_left _ ha), d2, ?_⟩
      -- what is left behind the call
      have rel : ∀ {F' H' : Hp} {fp' : List Addr}, Po F2 H2 f1 F' H' fp' → FH F' H' → Rel K F' H' σ e2 f3 ∧ Po F2 H2 (f1 ++ f3) F' H' f3 := fun {F' H' fp'} P ex => by
        have nf : ∀ a ∈ f3, a ∉ f1 := fun a ha hb => nd.2.2 a hb a ha rfl
        have dom3 : ∀ a ∈ f3, ∃ u, Hs H2 a u := fun a ha => R2.at_.dom a ha
        refine ⟨⟨ex, R2.at_.mono P.f fun a ha => ?_, R2.nd, fun a ha => ?_⟩, ⟨P.f, fun a u h n => P.keep a u h fun z => n (List.mem_append_left _ z), fun a ha => .inl (List.mem_append_right _ ha), fun a u g1 g2 n => P.out a u g1 g2 fun z => n (List.mem_append_left _ z)⟩⟩
        · obtain ⟨u, hu⟩ := dom3 a ha
          rw [hu.e, (P.keep a u hu.e (nf a ha)).of (tb_tp hu.n)]
        · obtain ⟨u, hu⟩ := dom3 a ha
          exact P.out a u (R2.out a ha) hu (nf a ha)
      cases hf : f o ds with
      | ok d o' =>
        rw [hf] at h3
        intro F' H' fp' w P ex _ _ _ dw
        obtain ⟨R4, P4⟩ := rel P ex
        exact h3 F' H' f3 w P4 R4 dw
      | oo r o' => rw [hf] at h3; exact h3.elim
      | exc x o' =>
        rw [hf] at h3
        intro F' H' fp' c dd P ex _ _ _ z
        obtain ⟨R4, P4⟩ := rel P ex
        exact h3 F' H' f3 c dd P4 R4 z
      | fail => rw [hf] at h3; exact h3.elim
theorem pd_callE {k n : Nat} {mo : MO} {f : O → List D → RI} (G : DefI X.prog X.w X.K X.mg X.base k x n f) (hr : Roam k X.A) (hg : Gl X x) (tk : Takes X W) (ho : PDO X W o ta mo) (hn : ArgN n m) (ha : PDA X W es t m) (hdb : (x == ("__debug__" : Str)) = false := by decide)
    (he : starEach (o :: es) X.env = (false, eval o X.env) :: starEach es X.env := by rfl) (hpl : (backTo pos (starEach es X.env)).any (·.1) = false := by rfl) : PD X W (.Call (.Name x p) (o :: es) [] pos) (tCallS (spI X.K n f) (WE W) (tCons ta t)) (mCallE f mo m) := by
  obtain ⟨g, hm, fd, ps, kp, b, F⟩ := G.ex
  exact ⟨pe_callG F hr hg hm kp b (fun σ => passAt tk σ) (pa_cons ho.pe ha.pa he) hdb he hpl, sn_callE ho.sn ha.sn hn⟩
end
end DD
namespace DD
open PySem L2
def lcM2 (tg : D → DEnv → Option DEnv) (tst : MB) (it1 : MA) (tg1 : D → DEnv → Option DEnv) (tst1 : MB) (elt : MD) (vs vs1 : List Nat) : List D → DEnv → Rs (List D)
  | [], env => .ok [] env
  | d :: ds, env => match tg d env with
    | none => .fail
    | some e1 => match tst e1 with
      | .ok true e2 => (match it1 e2 with
        | .ok ds1 e3 => if ds1.length < 4096 ∧ vs1.all (· < e3.length) = true then (match lcM tg1 tst1 elt vs1 ds1 (wipeE e3 vs1) with
          | .ok ys e4 => (lcM2 tg tst it1 tg1 tst1 elt vs vs1 ds (wipeE e4 vs)).bind fun zs e => .ok (ys ++ zs) e
          | _ => .fail) else .fail
        | _ => .fail)
      | .ok false e2 => lcM2 tg tst it1 tg1 tst1 elt vs vs1 ds (wipeE e2 vs)
      | _ => .fail
def mLcs2 (it : MA) (tg : D → DEnv → Option DEnv) (tst : MB) (it1 : MA) (tg1 : D → DEnv → Option DEnv) (tst1 : MB) (elt : MD) (vs vs1 : List Nat) : MA := fun env => (it env).bind fun ds e => if ds.length < 4096 ∧ vs.all (· < e.length) = true then lcM2 tg tst it1 tg1 tst1 elt vs vs1 ds (wipeE e vs) else .fail
def mLc2 (it : MA) (tg : D → DEnv → Option DEnv) (tst : MB) (it1 : MA) (tg1 : D → DEnv → Option DEnv) (tst1 : MB) (elt : MD) (vs vs1 : List Nat) : MD := fun env => (mLcs2 it tg tst it1 tg1 tst1 elt vs vs1 env).bind fun ys e => .ok (.lst ys) e
end DD
namespace DD
open PySem L2
end DD
namespace DD
open PySem PySem.Spec PyProof.Rows L2
theorem DefX.funD {K : PySem.W.Frag} {d : DefX} (e : FnT K (d.loc K) = d.val) (c : d.ok K = true) : ∃ fd, FunD K d.name d.qual (defArgs d.st) (defBody d.st) (defScope d.st) [] [] (d.loc K) fd := by
  obtain ⟨kp, c2⟩ := He.ba c
  unfold FnT at e
  cases q : K.lookup (d.loc K) with
  | none =>
    rw [q] at c2
    cases c2
  | some o =>
    rw [q] at c2 e
    obtain ⟨oc, od, dt, osl⟩ := o
    cases dt
    case func fd =>
      obtain ⟨n1, n2, n3, n4, n5, n6, n7, n8, n9, n10, n11, n12, n13, n14, n15⟩ := fd
      have e' : (some (n1, n2, n3, n4, n5, n6, n7, n15) : He.FnW) = d.val := e
      unfold DefX.val at e'
      simp only [Option.some.injEq, Prod.mk.injEq] at e'
      obtain ⟨rfl, rfl, rfl, rfl, rfl, rfl, rfl, rfl⟩ := e'
      obtain ⟨k1, k2⟩ := He.ba (show (PySem.W.codeIn K n13 d.qual && (He.dflB K n8 [] && He.kwdB K n9 [])) = true from c2)
      obtain ⟨k3, k4⟩ := He.ba k2
      exact ⟨_, ⟨oc, od, n8, n9, n10, n11, n12, n13, n14, osl, rfl, q, k1, He.dflB_ok k3, He.kwdB_ok k4⟩, kp⟩
    all_goals cases c2
section
variable {bs : List BoolX} {fn : List DefX} {K : PySem.W.Frag}
theorem SaysX.fact (c : SaysX bs fn K) (i : Nat) {b : BoolX} (h : bs[i]? = some b := by rfl) : b K = true := by
  have q : ((bs.all fun b => b K) && fn.all fun d => d.ok K) = true := congrArg Prod.fst c
  exact List.all_eq_true.mp (He.ba q).1 b (List.mem_of_getElem? h)
theorem SaysX.def_ (c : SaysX bs fn K) (i : Nat) {d : DefX} (h : fn[i]? = some d := by rfl) : ∃ fd, FunD K d.name d.qual (defArgs d.st) (defBody d.st) (defScope d.st) [] [] (d.loc K) fd := by
  have q : ((bs.all fun b => b K) && fn.all fun d => d.ok K) = true := congrArg Prod.fst c
  have e : fn.map (fun d => FnT K (d.loc K)) = fn.map DefX.val := congrArg Prod.snd c
  have e' : (fn.map fun d => FnT K (d.loc K))[i]? = (fn.map DefX.val)[i]? := by rw [e]
  simp only [List.getElem?_map, h, Option.map_some, Option.some.injEq] at e'
  exact DefX.funD e' (List.all_eq_true.mp (He.ba q).2 d (List.mem_of_getElem? h))
end
end DD
namespace DD
open PySem PySem.Spec PyProof.Rows L2
theorem bt_len : bootBuiltins "len" = some (.builtin "len") := by decide +kernel
theorem bt_abs : bootBuiltins "abs" = some (.builtin "abs") := by decide +kernel
theorem bt_max : bootBuiltins "max" = some (.builtin "max") := by decide +kernel
theorem bt_min : bootBuiltins "min" = some (.builtin "min") := by decide +kernel
theorem bt_all : bootBuiltins "all" = some (.builtin "all") := by decide +kernel
theorem bt_repr : bootBuiltins "repr" = some (.builtin "repr") := by decide +kernel
theorem bt_int : bootBuiltins "int" = some (.type "int") := by decide +kernel
section
variable {X : Cx} {W : WX} {k : Nat}
theorem u64 (r : Roam k X.A) : X.A.units + 64 < cLine := by
  have := r.room.un
  omega
theorem tk0 : Takes X W0 := takes0
theorem pnm (i : Nat) {x : Str} {pos : Pos} (hN : X.N[i]? = some x := by rfl) (hv : Vis X.env.scope x := by first | exact Or.inl rfl | exact Or.inr (Or.inl rfl) | exact Or.inr (Or.inr rfl)) (hd : (x == ("__debug__" : Str)) = false := by decide)
    (hcd : (x == ("__classdict__" : Str)) = false := by decide) : PE X (.Name x pos) (tVar i) := pe_var hN hv hd hcd
end
end DD
namespace DD
open PySem PySem.Spec PyProof.Rows L2
end DD
namespace DD
open PySem PySem.Spec PyProof.Rows L2
def permL {α : Type} (idx : List Nat) (l : List α) : List α := idx.filterMap (l[·]?)
theorem vals_perm {vs : List V} {us : List Value} (r : Vals vs us) : ∀ idx : List Nat, Vals (permL idx vs) (permL idx us)
  | [] => .nil
  | i :: idx => by
    have ih := vals_perm r idx
    unfold permL at ih ⊢
    rw [List.filterMap_cons, List.filterMap_cons]
    have hl := r.length
    by_cases h : i < vs.length
    · obtain ⟨u, e1, e2⟩ := Vals.get r (List.getElem?_eq_getElem h)
      rw [List.getElem?_eq_getElem h, e1]
      exact .cons e2 ih
    · rw [List.getElem?_eq_none (by omega), List.getElem?_eq_none (by omega)]
      exact ih
theorem kbn_of {K : PySem.W.Frag} {x qual : Str} {params : Arguments} {body : List Stmt} {scope : Scope} {f : Addr} {fd : FuncData} {ps : List Str} (F : FunD K x qual params body scope [] [] f fd) (n : Nat) (ks : List Str) (idx : List Nat)
    (h : ∀ (kV doc pm : Value) (an : Option Addr) (cdv ct : Value) (us ws : List Value), us.length = n → ws.length = ks.length → bindArgs (PySem.W.fnOf x qual params body scope .none kV doc pm an cdv ct) ⟨us, ks.zip ws⟩ = pure (ps.zip (permL idx (us ++ ws)))) :
    KBn K fd ps n ks (fun us ws => permL idx (us ++ ws)) (fun vs zs => permL idx (vs ++ zs)) := by
  obtain ⟨oc, od, dV, kV, doc, pm, an, cdv, ct, osl, rfl, lk, hcd, hD, hK⟩ := F.ex
  rcases hD with ⟨_, rfl⟩ | ⟨e, _⟩
  · exact ⟨fun s us ws _ h1 h2 => .of_eq (h kV doc pm an cdv ct us ws h1 h2), fun r1 r2 => vals_perm (r1.append r2) idx⟩
  · exact absurd rfl e
structure PDK (X : Cx) (W : WX) (kws : List Keyword) (t : TA) (m : MA) : Prop where
  pk : PK X kws t
  sn : Sn X.K W (Dens X.K) emp t m
section
variable {X : Cx} {CX : CXT} {W : WX} {k n : Nat} {f : Addr} {fd : FuncData} {ps ks : List Str} {sp : Sp} {E : L2.St → XK} {x : Str} {p pos kpos : Pos} {e : Expr} {es : List Expr} {kws : List Keyword} {t tk : TA} {te : TE} {m mk : MA} {me : MD} {g : List Value → List Value → List Value} {gV : List V → List V → List V} {nm : Option Str}
theorem pdk_nil : PDK X W [] tNil mNil := ⟨pk_nil, sn_nil⟩
theorem pdk_cons (ha : PD X W e te me) (hr : PDK X W kws t m) : PDK X W (⟨nm, e, kpos⟩ :: kws) (tCons te t) (mCons me m) := ⟨pk_cons ha.pe hr.pk, sn_cons ha.sn hr.sn⟩
end
end DD
namespace DD
open PySem PySem.Spec PyProof.Rows L2
def rngDn (i : Int) (n : Nat) : List D := (List.range n).map fun k => .int (i - (k : Nat))
def rngD3 : List D → Option (List D)
  | [.int i, .int j, .int c] => if (smallI i && smallI j && decide (c = -1)) = true then some (rngDn i (i - j).toNat) else none
  | _ => none
def mRng3 (a : MA) : MA := fun env => (a env).bind fun xs e => ofO (rngD3 xs) e
end DD
namespace DD
open PySem PySem.Spec PyProof.Rows L2
def keyD : D → Option Key
  | .int i => some (.inl i)
  | .str s => some (.inr s)
  | _ => none
def kD : Key → D
  | .inl i => .int i
  | .inr s => .str s
@[simp] theorem keyD_kD (k : Key) : keyD (kD k) = some k := by cases k <;> rfl
theorem den_key {K : PySem.W.Frag} {F : Hp} {d : D} {v : V} {k : Key} (h : Den K F d v) (e : keyD d = some k) : v = kV k := by
  cases d <;> cases e <;> exact h
section
variable {κ α : Type} [DecidableEq κ]
def rplX : List κ → List α → κ → α → List α
  | k' :: ks, x' :: xs, k, x => (if k' = k then x else x') :: rplX ks xs k x
  | _, xs, _, _ => xs
def putX (ks : List κ) (xs : List α) (k : κ) (x : α) : List α := if k ∈ ks then rplX ks xs k x else xs ++ [x]
def putN (ks : List κ) (k : κ) : List κ := if k ∈ ks then ks else ks ++ [k]
theorem rplX_length : ∀ (ks : List κ) (xs : List α) (k : κ) (x : α), (rplX ks xs k x).length = xs.length
  | [], xs, k, x => by cases xs <;> rfl
  | k' :: ks, [], k, x => rfl
  | k' :: ks, x' :: xs, k, x => by rw [rplX, List.length_cons, rplX_length ks xs k x, List.length_cons]
theorem putNX_length {ks : List κ} {xs : List α} (h : ks.length = xs.length) (k : κ) (x : α) : (putN ks k).length = (putX ks xs k x).length := by
  unfold putN putX
  by_cases hk : k ∈ ks
  · rw [if_pos hk, if_pos hk, rplX_length, h]
  · rw [if_neg hk, if_neg hk, List.length_append, List.length_append, h]; rfl
theorem zip_any (k : κ) : ∀ {ks : List κ} {vs : List V}, ks.length = vs.length → ((ks.zip vs).any fun kv => decide (kv.1 = k)) = decide (k ∈ ks)
  | [], [], _ => rfl
  | k' :: ks, v :: vs, h => by
    rw [List.zip_cons_cons, List.any_cons, zip_any k (by simpa using h)]
    by_cases e : k' = k
    · simp [e]
    · have e' : ¬ k = k' := fun z => e z.symm
      simp [e, e']
theorem zip_rpl (k : κ) (v : V) : ∀ {ks : List κ} {vs : List V}, ks.length = vs.length → (ks.zip vs).map (fun kv => if kv.1 = k then (kv.1, v) else kv) = ks.zip (rplX ks vs k v)
  | [], [], _ => rfl
  | k' :: ks, x :: vs, h => by
    rw [List.zip_cons_cons, List.map_cons, zip_rpl k v (by simpa using h), rplX, List.zip_cons_cons]
    by_cases e : k' = k
    · rw [if_pos e, if_pos e]
    · rw [if_neg e, if_neg e]
theorem putK_zip {ks : List κ} {vs : List V} (h : ks.length = vs.length) (k : κ) (v : V) : putK (ks.zip vs) k v = (putN ks k).zip (putX ks vs k v) := by
  unfold putK putN putX
  rw [zip_any k h]
  by_cases e : k ∈ ks
  · rw [if_pos (by simpa using e), if_pos e, if_pos e, zip_rpl k v h]
  · rw [if_neg (by simpa using e), if_neg e, if_neg e, List.zip_append h]
    rfl
end
section
variable {κ : Type} [DecidableEq κ] {K : PySem.W.Frag} {F H : Hp}
theorem Dens.rplX {d : D} {v : V} {k : κ} (h : Den K F d v) : ∀ {ks : List κ} {ds : List D} {vs : List V}, Dens K F ds vs → Dens K F (rplX ks ds k d) (rplX ks vs k v)
  | [], ds, vs, q => by
    have e1 : DD.rplX ([] : List κ) ds k d = ds := by cases ds <;> rfl
    have e2 : DD.rplX ([] : List κ) vs k v = vs := by cases vs <;> rfl
    rw [e1, e2]
    exact q
  | k' :: ks, [], vs, q => by
    have q' : vs = [] := q
    subst q'
    exact rfl
  | k' :: ks, d' :: ds, vs, ⟨x, xs, r, s, t⟩ => by
    subst r
    refine dens_cons ?_ (Dens.rplX h t)
    by_cases e : k' = k
    · rw [if_pos e, if_pos e]; exact h
    · rw [if_neg e, if_neg e]; exact s
theorem Dens.putX {d : D} {v : V} {k : κ} {ks : List κ} {ds : List D} {vs : List V} (q : Dens K F ds vs) (h : Den K F d v) : Dens K F (putX ks ds k d) (putX ks vs k v) := by
  unfold DD.putX
  by_cases e : k ∈ ks
  · rw [if_pos e, if_pos e]; exact Dens.rplX h q
  · rw [if_neg e, if_neg e]; exact Dens.append q (dens_cons h dens_nil)
end
theorem own_oD {K : PySem.W.Frag} {F H : Hp} {a : Addr} {ks : List Key} {vs : List V} {ds : List D} (h : H a = some (.dK (ks.zip vs))) (l : ks.length = vs.length) (d : Dens K F ds vs) : OwnAt K F H (oD ks ds) (.ref a) [a] := ⟨a, vs, [], rfl, rfl, h, l, owns_map d⟩
section
variable {X : Cx} {W : WX} {fx : List Nat} {pos pos' p apos npos cpos tpos : Pos} {x : Str} {e ke ve : Expr} {te tk tv : TE} {me mk mv : MD} {i : Nat}
def mDNew : MO := fun env => .ok (.dct [] []) env
theorem pdo_dnew : PDO X W (.Dict [] [] pos) tDNewK mDNew := by
  refine ⟨pe_dnewK, fun F H σ env fp Q R h a hp => ?_⟩
  obtain ⟨N0, N1⟩ := R.newO (u := .dK []) (o := oD [] []) hp (own_oD (vs := []) upd_same rfl dens_nil)
  exact h F _ [a] fp (.ref a) N1 N0
end
end DD
namespace DD
open PySem PySem.Spec PyProof.Rows L2
section
variable {X : Cx} {W : WX} {fx : List Nat} {pos pos' p apos npos cpos tpos : Pos} {x : Str} {e ke ve o tg : Expr} {te tk tv td : TE} {me mk mv md : MD} {i : Nat}
def PDen (K : PySem.W.Frag) (F : Hp) : List (Key × D) → List (V × V) → Prop
  | [], b => b = []
  | p :: r, b => ∃ v s, b = (kV p.1, v) :: s ∧ Den K F p.2 v ∧ PDen K F r s
def mPairs : List (MD × MD) → DEnv → Rs (List (Key × D))
  | [], env => .ok [] env
  | (mk, mv) :: r, env => (mk env).bind fun k e => (mv e).bind fun v e2 => match keyD k with
    | some kk => (mPairs r e2).bind fun ps e3 => .ok ((kk, v) :: ps) e3
    | none => .fail
structure PDPs (X : Cx) (W : WX) (pos : Pos) (keys : List (Option Expr)) (values : List Expr) (trs : List (TE × TE)) (ms : List (MD × MD)) : Prop where
  pps : PPs X pos keys values trs
  sn : Sn X.K W (PDen X.K) emp (tPairs trs) (mPairs ms)
theorem pdps_nil : PDPs X W pos [] [] [] [] := ⟨pps_nil, fun F H σ env fp Q _ R h => h F H fp [] Po.refl R rfl⟩
theorem pdps_cons {keys : List (Option Expr)} {values : List Expr} {trs : List (TE × TE)} {ms : List (MD × MD)} (hk : PD X W ke tk mk) (hv : PD X W ve tv mv) (hr : PDPs X W pos keys values trs ms) : PDPs X W pos (some ke :: keys) (ve :: values) ((tk, tv) :: trs) ((mk, mv) :: ms) := by
  refine ⟨pps_cons hk.pe hv.pe hr.pps, fun F H σ env fp Q _ R h => ?_⟩
  refine hk.sn.go ex_emp R h fun F1 H1 fp1 env1 k y P1 R1 d1 h1 => ?_
  refine hv.sn.go ex_emp R1 h1 fun F2 H2 fp2 env2 d v P2 R2 d2 h2 => ?_
  split at h2
  case h_2 => exact h2.elim
  rename_i kk ek
  refine hr.sn.go ex_emp R2 h2 fun F3 H3 fp3 env3 ps vs P3 R3 d3 h3 => ?_
  refine h3 F3 H3 fp3 _ Po.refl R3 ⟨v, vs, ?_, Den.mono P3.f _ _ d2, d3⟩
  rw [den_key d1 ek]
def mergeD (ks : List Key) (ds : List D) : List (Key × D) → List Key × List D
  | [] => (ks, ds)
  | p :: r => mergeD (putN ks p.1) (putX ks ds p.1 p.2) r
theorem merge_at {K : PySem.W.Frag} {F : Hp} : ∀ {ps : List (Key × D)} {b : List (V × V)}, PDen K F ps b → ∃ kvs : List (Key × V), b = kvs.map (fun kv => (kV kv.1, kv.2)) ∧ kvs.length = ps.length ∧ ∀ ks ds vs, ks.length = vs.length → Dens K F ds vs →
    ∃ vs', mergeK (ks.zip vs) kvs = (mergeD ks ds ps).1.zip vs' ∧ (mergeD ks ds ps).1.length = vs'.length ∧ Dens K F (mergeD ks ds ps).2 vs'
  | [], b, h => ⟨[], h, rfl, fun ks ds vs l d => ⟨vs, rfl, l, d⟩⟩
  | p :: r, b, ⟨v, s, e, d, t⟩ => by
    subst e
    obtain ⟨kvs, e, l, q⟩ := merge_at t
    subst e
    refine ⟨(p.1, v) :: kvs, rfl, by simp [l], fun ks ds vs hl hd => ?_⟩
    obtain ⟨vs', z1, z2, z3⟩ := q (putN ks p.1) (putX ks ds p.1 p.2) (putX ks vs p.1 v) (putNX_length hl _ _) (Dens.putX hd d)
    refine ⟨vs', ?_, z2, z3⟩
    rw [← putK_zip hl] at z1
    exact z1
def mDisp (ms : List (MD × MD)) : MO := fun env => (mPairs ms env).bind fun ps e => if ps.length ≤ 15 then .ok (oD (mergeD [] [] ps).1 (mergeD [] [] ps).2) e else .fail
theorem pdo_disp {keys : List (Option Expr)} {values : List Expr} {trs : List (TE × TE)} {ms : List (MD × MD)} (h : PDPs X W pos keys values trs ms) (hall : keys.all (·.isSome) = true := by rfl) (hl : keys.length = values.length := by rfl) (h0 : keys ≠ [] := by exact List.cons_ne_nil _ _) (h15 : keys.length ≤ 15 := by decide) :
    PDO X W (.Dict keys values pos) (tDisp trs) (mDisp ms) := by
  refine ⟨pe_disp h.pps hall hl h0 h15, fun F H σ env fp Q R hq p hp => ?_⟩
  obtain ⟨N0, N1⟩ := R.newO (u := .dK []) (o := oD [] []) hp (own_oD (vs := []) upd_same rfl dens_nil)
  refine h.sn F _ σ env fp _ ex_emp N0.rel ?_
  have hq1 := OutO.step N1 hq
  unfold mDisp at hq1
  generalize mPairs ms env = r at hq1
  cases r with
  | fail => exact hq1.elim
  | exc y e1 =>
    intro F' H' fp' c dd P R' z
    obtain ⟨R2, P2⟩ := N0.frame P R'
    obtain ⟨fp3, a1, a2⟩ : ∃ fp3, Rel X.K F' H' σ e1 fp3 ∧ Po F (upd H p (.dK [])) ([p] ++ fp) F' H' fp3 := ⟨fp', R', P2.trans (Po.sub fun a ha => List.mem_append_right _ ha)⟩
    exact hq1 F' H' fp3 c dd a2 a1 z
  | ok ps e1 =>
    intro F1 H1 fp1 b P1 R1 d1
    obtain ⟨R2, P2⟩ := N0.frame P1 R1
    have hp1 : H1 p = some (.dK []) := (P1.keep p _ upd_same fun z => (List.nodup_append.mp N0.nd).2.2 p (by simp) p z rfl).of
    have hq2 := OutO.step P2 hq1
    rw [Rs.bind_ok] at hq2
    by_cases hz : ps.length ≤ 15
    case neg =>
      rw [if_neg hz] at hq2
      exact hq2.elim
    rw [if_pos hz] at hq2
    obtain ⟨kvs, eb, lk, q⟩ := merge_at d1
    obtain ⟨vs', z1, z2, z3⟩ := q [] [] [] rfl dens_nil
    refine ⟨hp1, kvs, eb, by omega, ?_⟩
    have z1' : mergeK [] kvs = (mergeD [] [] ps).1.zip vs' := z1
    rw [z1']
    obtain ⟨R3, P3⟩ := R2.write (a := p) (u := .dK ((mergeD [] [] ps).1.zip vs')) (o' := oD (mergeD [] [] ps).1 (mergeD [] [] ps).2) (by simp) (own_oD upd_same z2 z3)
    exact hq2 F1 _ [p] fp1 (.ref p) P3 R3
end
end DD
namespace DD
open PySem PySem.Spec PyProof.Rows L2
end DD
namespace DD
open PySem PySem.Spec PyProof.Rows L2
end DD
namespace DD
open PySem PySem.Spec PyProof.Rows L2
theorem u1 {X : Cx} {k : Nat} (r : Roam k X.A) : X.A.units + 1 < cLine := by
  have := r.room.un
  omega
end DD
namespace DD
open PySem PySem.Spec PyProof.Rows L2
end DD
namespace DD
open PySem PySem.Spec PyProof.Rows L2
end DD
namespace DD
open PySem PySem.Spec PyProof.Rows L2
end DD
namespace DD
open PySem PySem.Spec PyProof.Rows L2
end DD
namespace DD
open PySem PySem.Spec PyProof.Rows L2
end DD
namespace DD
open PySem PySem.Spec PyProof.Rows L2
end DD
namespace DD
open PySem PySem.Spec PyProof.Rows L2
end DD
namespace DD
open PySem PySem.Spec PyProof.Rows L2
end DD
namespace DD
open PySem PySem.Spec PyProof.Rows L2
theorem obsXS_eq {fns cls : List Str} {bs : List BoolX} {fn : List DefX} {g : Addr → Option Obj} {s : Shared} (h : ∀ a, g a = s.heap.get? a) : obsXS fns cls bs fn g = (hookS fns cls bs fn).obs s := by
  rw [show g = s.heap.get? from funext h]
  rfl
end DD
namespace DD
open PySem PySem.Spec PyProof.Rows L2
end DD
namespace DD
open PySem PySem.Spec PyProof.Rows L2
end DD
namespace DD
open PySem PySem.Spec PyProof.Rows L2
end DD
namespace DD
open PySem PySem.Spec PyProof.Rows L2
def repLD : D → D → Option D
  | .lst ds, .int k => if 0 ≤ k ∧ k ≤ 1000 ∧ ds.length ≤ 1000 then some (.lst (List.replicate k.toNat ds).flatten) else none
  | _, _ => none
theorem dens_rep {K : PySem.W.Frag} {F : Hp} {ds : List D} {vs : List V} (h : Dens K F ds vs) : ∀ k : Nat, Dens K F (List.replicate k ds).flatten (List.replicate k vs).flatten
  | 0 => dens_nil
  | k + 1 => by
    rw [List.replicate_succ, List.replicate_succ, List.flatten_cons, List.flatten_cons]
    exact Dens.append h (dens_rep h k)
def rRepL (K : PySem.W.Frag) : R2 := fun x y H Q => ∃ l k xs, x = .ref l ∧ y = .int k ∧ SqL K H l xs ∧ 0 ≤ k ∧ k ≤ 1000 ∧ xs.length ≤ 1000 ∧ ∀ p, H p = none → Q (.ref p) (upd H p (.lst (List.replicate k.toNat xs).flatten))
theorem op_repL {X : Cx} : OpR X (binaryOp .Mult) (rRepL X.K) := by
  intro pins s σ H x y v u Q I rx ry h
  obtain ⟨l, k, xs, rfl, rfl, hs, h1, h2, hz, q⟩ := h
  cases rx
  obtain ⟨t, rfl⟩ := ry
  obtain ⟨its, rv, ⟨⟨cls, dd, data, sl⟩, n, ho, hc, hdn, hd⟩, hlen⟩ := I.list hs
  have hc1 : cls = Value.type "list" := hc
  have hd1 : data = Data.seq its.toArray n := hd
  subst hc1 hd1
  have hle : its.length = xs.length := rv.length.symm
  have hm : its.toArray.size * k.toNat ≤ 1000 * 1000 := by
    rw [List.size_toArray, hle]
    exact Nat.mul_le_mul hz (by omega)
  have hl2 : (List.replicate k.toNat xs).flatten.length ≤ sizeLine := by
    rw [PyProof.Rows.lm_len_rep_flat, sizeLine_eq]
    have a1 : k.toNat * xs.length ≤ 1000 * 1000 := Nat.mul_le_mul (by omega) hz
    omega
  have hsl := sizeLine_eq
  have hcap : (sizeLine : Nat) ≤ (2 ^ 63 - 1) / 8 := by decide
  refine wpAny_binaryOp_repeat_ref (T := "list") (U := "int") (by decide) ⟨_, ho, rfl⟩ (fun s' => typeIs_int s' k t) noFill_list_mul F.fills_int_mul F.slot_int_rmul repeat_list F.slot_int_index.lookup
    (call_meets F.slot_int_rmul (typeIs_int s k t) F.entry_int_rmul (F.args_int_rmul_2 _ _) (lm_int_rmul_list_any k t l its.toArray n dd sl)
      ⟨ho, rfl, ⟨_, ho, rfl⟩, call_meets F.slot_list_mul ⟨_, ho, rfl⟩ F.entry_list_mul (F.args_list_mul_2 _ _)
        (lm_list_mul_any l its.toArray n dd sl k t (by rw [fitsIndex_both (by omega) (by omega)]; exact Bool.false_ne_true) (by omega) (by rw [notLongL (by omega)]; exact Bool.false_ne_true))
        ⟨ho, ?_⟩⟩)
  rw [listMul_foldl_if]
  exact ⟨.ref _, _, I.lnew (t' := s.toks) (rv.rep k.toNat) hl2, rfl, q _ I.fresh⟩
theorem opd_repL {K : PySem.W.Frag} : OpD K (rRepL K) repLD := by
  intro F H x y a b z e hx hy hz Q k
  cases x <;> first | (cases hz; done) | skip
  cases y <;> first | (cases hz; done) | skip
  rename_i ds i
  have hz' : (if 0 ≤ i ∧ i ≤ 1000 ∧ ds.length ≤ 1000 then some (D.lst (List.replicate i.toNat ds).flatten) else none) = some z := hz
  by_cases h : 0 ≤ i ∧ i ≤ 1000 ∧ ds.length ≤ 1000
  · rw [if_pos h] at hz'
    cases hz'
    obtain ⟨p, vs, rfl, h1, h2⟩ := hx
    have hb : b = .int i := hy
    refine ⟨p, i, vs, rfl, hb, .inl (e.rd h1), h.1, h.2.1, by rw [← Dens.length h2]; exact h.2.2, fun r hr => ?_⟩
    obtain ⟨g, d⟩ := gr_lst e hr (dens_rep h2 i.toNat)
    exact k _ _ _ g d
  · rw [if_neg h] at hz'
    cases hz'
end DD
namespace DD
open PySem PySem.Spec PyProof.Rows L2 PySem.W
end DD
namespace DD
open PySem PySem.Spec PyProof.Rows L2
end DD
namespace DD
open PySem PySem.Spec PyProof.Rows L2
end DD
namespace DD
open PySem PySem.Spec PyProof.Rows L2
end DD
namespace DD
open PySem PySem.Spec PyProof.Rows L2
end DD
namespace DD
open PySem PySem.Spec PyProof.Rows L2
end DD
namespace DD
open PySem PySem.Spec PyProof.Rows L2
end DD
namespace DD
open PySem PySem.Spec PyProof.Rows L2
end DD
namespace DD
open PySem PySem.Spec PyProof.Rows L2
end DD
namespace DD
open PySem PySem.Spec PyProof.Rows L2
end DD
namespace DD
open PySem PySem.Spec PyProof.Rows L2
end DD
namespace DD
open PySem PySem.Spec PyProof.Rows L2
end DD
namespace DD
open PySem PySem.Spec PyProof.Rows L2
end DD
set_option maxHeartbeats 2000000
namespace DD
open PySem PySem.Spec PyProof.Rows L2
end DD
namespace DD
open PySem PySem.Spec PyProof.Rows L2
end DD
set_option maxHeartbeats 200000
namespace DD
open PySem PySem.Spec PyProof.Rows L2
end DD
namespace DD
open PySem PySem.Spec PyProof.Rows L2
end DD
set_option maxHeartbeats 1000000
namespace DD
open PySem PySem.Spec PyProof.Rows L2
end DD
namespace DD
open PySem PySem.Spec PyProof.Rows L2
end DD
namespace DD
open PySem PySem.Spec PyProof.Rows L2
def isNone : Value → Bool
  | .none => true
  | _ => false
end DD
namespace DD
open PySem PySem.Spec PyProof.Rows L2
end DD
namespace DD
open PySem PySem.Spec PyProof.Rows L2
end DD
set_option maxHeartbeats 200000
namespace DD
open PySem PySem.Spec PyProof.Rows L2
section
variable {K : PySem.W.Frag} {F : Hp}
def del (F : Hp) (a : Addr) : Hp := fun x => if x = a then none else F x
theorem del_ne {a x : Addr} (h : x ≠ a) : del F a x = F x := if_neg h
end
end DD
namespace DD
open PySem PySem.Spec PyProof.Rows L2
def EB.nm : EB → String
  | .v => "ValueError" | .l => "LookupError" | .a => "ArithmeticError"
theorem EB.facts : ∀ b : EB, ∃ I, ExcBaseFacts b.nm b.nw I b.bm
  | .v => ⟨_, PySem.F.excBase_ValueError⟩
  | .l => ⟨_, PySem.F.excBase_LookupError⟩
  | .a => ⟨_, PySem.F.excBase_ArithmeticError⟩
/-- an own class of exceptions without __init__ -/
structure ExcK (K : PySem.W.Frag) (C : Str) (b : EB) : Prop where
  q : PySem.W.excIn K (cadr K C) b.bm b.nw = true
  k : PySem.W.keepIn K (.ref (cadr K C)) = true
  s : PySem.W.subIn K (.ref (cadr K C)) (.type "BaseException") = some true
  t : PySem.W.typeIn K (.ref (cadr K C)) = some (.type "type")
theorem excB_ok {K : PySem.W.Frag} {C : Str} {b : EB} (h : excB C b K = true) : ExcK K C b := by
  unfold excB at h
  rw [Bool.and_eq_true, Bool.and_eq_true, Bool.and_eq_true, decide_eq_true_iff, decide_eq_true_iff] at h
  exact ⟨h.1, h.2.1, h.2.2.1, h.2.2.2⟩
end DD
set_option maxHeartbeats 1000000
namespace DD
open PySem PySem.Spec PyProof.Rows L2
def mAddO (a b : MD) : MO := fun env => (a env).bind fun x e1 => (b e1).bind fun y e2 => match x, y with
  | .lst xs, .lst ys => if xs.length + ys.length ≤ sizeLine then .ok (oL (xs ++ ys)) e2 else .fail
  | _, _ => .fail
section
variable {X : Cx} {W : WX} {fx : List Nat} {pos : Pos}
theorem Sn.goO {α β : Type} {K : PySem.W.Frag} {W : WX} {rel1 : Hp → α → β → Prop} {F0 : Hp} {t1 : L2.St → Hp → (β → Hp → Prop) → Prop} {m1 : DEnv → Rs α} (h1 : Sn K W rel1 F0 t1 m1) {F H : Hp} {σ : L2.St} {env : DEnv} {fp : List Addr} {Q : VK} {f : α → DEnv → Rs O} {C : β → Hp → Prop}
    (e0 : Ex F0 F) (R : Rel K F H σ env fp) (h : OutO K W F H σ fp Q ((m1 env).bind f)) (k : ∀ F1 H1 fp1 env1 x v, Po F H fp F1 H1 fp1 → Rel K F1 H1 σ env1 fp1 → rel1 F1 x v → OutO K W F1 H1 σ fp1 Q (f x env1) → C v H1) : t1 σ H C := by
  refine h1 F H σ env fp _ e0 R ?_
  generalize m1 env = r at h
  cases r with
  | ok a env1 => exact fun F' H' fp' b P R' r' => k F' H' fp' env1 a b P R' r' (OutO.step P h)
  | exc x env1 => exact h
  | fail => exact h
theorem pdo_addO {a b : Expr} {ta tb : TE} {ma mb : MD} (ha : PD X W a ta ma) (hb : PD X W b tb mb) : PDO X W (.BinOp a .Add b pos) (tOp (rAddD X.K) ta tb) (mAddO ma mb) := by
  refine ⟨pe_op op_addD ha.pe hb.pe, fun F H σ env fp Q R h => ?_⟩
  unfold mAddO at h
  refine Sn.goO ha.sn ex_emp R h fun F1 H1 fp1 env1 x v P1 R1 d1 h1 => ?_
  refine Sn.goO hb.sn ex_emp R1 h1 fun F2 H2 fp2 env2 y u P2 R2 d2 h2 => ?_
  have key : ∀ xs ys, x = .lst xs → y = .lst ys → rAddD X.K v u H2 Q := by
    rintro xs ys rfl rfl
    obtain ⟨p, vs, rfl, q1, q3⟩ := Den.mono P2.f _ _ d1
    obtain ⟨r, us, rfl, s1, s3⟩ := d2
    have h3 : OutO X.K W F2 H2 σ fp2 Q (if xs.length + ys.length ≤ sizeLine then .ok (oL (xs ++ ys)) env2 else .fail) := h2
    by_cases hz : xs.length + ys.length ≤ sizeLine
    · rw [if_pos hz] at h3
      refine .inr (.inl ⟨p, r, vs, us, rfl, rfl, R2.ex.rd q1, R2.ex.rd s1, by rw [← Dens.length q3, ← Dens.length s3]; exact hz, fun t ht => ?_⟩)
      obtain ⟨N0, N1⟩ := R2.newO (o := oL (xs ++ ys)) ht (own_oL upd_same (Dens.append q3 s3))
      exact h3 F2 _ [t] fp2 (.ref t) N1 N0
    · rw [if_neg hz] at h3
      exact h3.elim
  cases x with
  | lst xs =>
    cases y with
    | lst ys => exact key xs ys rfl rfl
    | _ => exact (show False from h2).elim
  | _ => exact (show False from h2).elim
end
end DD
namespace DD
open PySem PySem.Spec PyProof.Rows L2
end DD
namespace DD
open PySem PySem.Spec PyProof.Rows L2
end DD
namespace DD
open PySem PySem.Spec PyProof.Rows L2
end DD
set_option maxHeartbeats 4000000
namespace DD
open PySem PySem.W PySem.Calls PyProof.Rows PySem.HandSPX
theorem EB.store : ∀ eb : EB, StoreFacts eb.nm eb.bm "object.__setattr__" "object"
  | .v => PySem.F.store_ValueError
  | .l => PySem.F.store_LookupError
  | .a => PySem.F.store_ArithmeticError
theorem EB.ne : ∀ eb : EB, eb.bm ≠ []
  | .v => by decide
  | .l => by decide
  | .a => by decide
theorem EB.obj : ∀ eb : EB, eb.bm.contains (.type "object") = true
  | .v => by decide +kernel
  | .l => by decide +kernel
  | .a => by decide +kernel
theorem refsB_cases {eb : EB} : ∀ {l : List Value}, refsB eb l = true → (∃ c r, l = .ref c :: r ∧ refsB eb r = true) ∨ l = eb.bm := fun {l} e => by
  cases l with
  | nil => exact .inr (beq_iff_eq.mp e)
  | cons z r => cases z <;> first | exact .inl ⟨_, _, rfl, e⟩ | exact .inr (beq_iff_eq.mp e)
theorem refsB_ne {eb : EB} {l : List Value} (e : refsB eb l = true) : l.isEmpty = false := by
  cases l with
  | nil => exact absurd (beq_iff_eq.mp e).symm eb.ne
  | cons _ _ => rfl
theorem refsB_pass (eb : EB) (self : Value) : ∀ l : List Value, refsB eb l = true → refuseLoop self "__setattr__" l = pure () := by
  intro l
  induction l with
  | nil => exact fun e => absurd (beq_iff_eq.mp e).symm eb.ne
  | cons z r ih =>
    intro e
    rcases refsB_cases e with ⟨c, r', q, h⟩ | q
    · obtain ⟨rfl, rfl⟩ := List.cons.inj q
      rw [refuseLoop_ref]
      exact ih h
    · rw [q]
      exact eb.store.passes self
theorem refsB_has (eb : EB) (Y : String) : ∀ l : List Value, refsB eb l = true → l.contains (.type Y) = eb.bm.contains (.type Y) := by
  intro l
  induction l with
  | nil => exact fun e => absurd (beq_iff_eq.mp e).symm eb.ne
  | cons z r ih =>
    intro e
    rcases refsB_cases e with ⟨c, r', q, h⟩ | q
    · obtain ⟨rfl, rfl⟩ := List.cons.inj q
      rw [List.contains_cons, ih h]
      rfl
    · rw [q]
section
open Builtin Builtin.ObjectAttr
variable {prog : Program} {w : World} {A : Around} {R : Result → Shared → Prop} {hp : Heap} {g : Array GenState} {d : Drawn} {t : Nat} {os : OsState}
/-- the first field of an exception -/
theorem osaB {eb : EB} {K : W.Frag} {fl : Str} {tk : Tok} {u : Value} {z C : Addr} {fv : Array Value} {cd : ClassData}
    (kin : K.In hp) (oz : hp.get? z = some { cls := .ref C, data := .fields fv }) (hcd : W.clsIn K C = some cd) (hm : refsB eb cd.mro = true) (hh : cd.hasDict = true) (no : W.findIn K (.ref C) fl = some none)
    (fin : ∀ h' tk' dx, (∀ b o, b ≠ z → hp.get? b = some o → h'.get? b = some o) → hp.objs.size ≤ dx → dx ≠ z → h'.get? z = some { cls := .ref C, dict := some dx, data := .fields fv } →
      h'.Ns1 dx (fun y => if y = fl then some u else none) → R (.ok (.ret .none)) ⟨h', g, d, tk', os⟩) :
    codeAny (model prog w) A (.call (.builtin "object.__setattr__") ⟨[.ref z, .str fl tk, u], []⟩) R ⟨hp, g, d, t, os⟩ := by
  have J : W.InstAt hp z { cls := .ref C, data := .fields fv } C none := ⟨oz, rfl, rfl, trivial⟩
  have SF := F.store_object
  have hz : z ≠ hp.objs.size := Nat.ne_of_lt (Heap.lt_size oz)
  have isO : cd.mro.contains (.type "object") = true := (refsB_has eb "object" _ hm).trans eb.obj
  have below : W.Looks (model prog w) hp (isInstance (.ref z) (.type "object")) true := J.type.andThen (W.looks_mroIn kin (by
    unfold W.mroIn
    rw [hcd, Option.bind_some, if_neg (by rw [refsB_ne hm]; decide), isO]))
  refine codeAny_call_builtin SF.slot.plain SF.entry (@W.check_slot (model prog w) _ _ ⟨hp, g, d, t, os⟩ "object.__setattr__" "object" "__setattr__" (.ref z) [.str fl tk, u] [] _ SF.kind SF.split below (SF.args (.ref z) (.str fl tk) u) ?_)
  have rowOf : W.Looks (model prog w) hp (mroOf (.ref C)) cd.mro := (W.looks_clsIn kin hcd).andThen .now
  have noTaker : W.Looks (model prog w) hp (storeTaker? none) none := .now
  have clsAt : W.Looks (model prog w) hp (classData C) cd := W.looks_clsIn kin hcd
  rw [W.osa_eq, refuse_eq]
  refine wpAny_bind (wpAny_bind (J.type.at (wpAny_bind (rowOf.at ?_))))
  rw [refsB_pass eb _ _ hm]
  refine wpAny_pure (wpAny_bind (J.type.at (wpAny_bind ((W.looks_findIn kin no).at (wpAny_bind (noTaker.at ?_))))))
  show wpAny _ _ (storeInOwnDict (.ref z) (.ref C) (.str fl tk) fl u false) _ _ _
  obtain ⟨nm, bs, mro, ns, qn, hd, sn, sb, ab, col, del⟩ := cd
  dsimp only at hh
  subst hh
  unfold storeInOwnDict ownDictForStores
  repeat (first | with_reducible refine store_in_new ?_ ?_ | with_reducible refine wpAny_loadPart_at oz ?_ | with_reducible refine clsAt.at ?_ | wp_step)
  · exact ⟨_, #[], _, (Heap.get?_update_ne _ _ _ _ hz.symm).trans (Heap.get?_push_at rfl rfl), rfl, fun e he => absurd he (by simp), fun _ => rfl⟩
  · intro h' tk' n1 sb
    have oz' : (hp.push { cls := .type "dict", data := .dict #[] }).get? z = some { cls := .ref C, data := .fields fv } := Heap.get?_push_of_some _ oz
    refine fin h' tk' hp.objs.size (fun b o hb ho => ?_) (Nat.le_refl _) hz.symm ?_ n1
    · exact (sb.2 b (Nat.ne_of_lt (Heap.lt_size ho))).trans ((Heap.get?_update_ne _ _ _ _ hb).trans (Heap.get?_push_of_some _ ho))
    · exact (sb.2 z hz).trans (Heap.get?_update_self _ oz' rfl)
end
end DD
namespace DD
open PySem PySem.Spec PyProof.Rows L2
/-- what the written part says of the class -/
structure OexG (K : PySem.W.Frag) (C : Addr) : Prop where
  cls : ∃ eb nm q N bs bm sn sub ab col dd k0 k1 k2 k3 k5, K.lookup C = some (excClassObj nm q C N bs bm true sn sub ab col dd k0 k1 k2 k3 k5 (EB.nw eb)) ∧ refsB eb bm = true
  sa : PySem.W.findIn K (.ref C) "__setattr__" = some (some (.builtin "object.__setattr__"))
  exC : PySem.W.subIn K (.ref C) (.type "BaseException") = some true
  tyC : PySem.W.typeIn K (.ref C) = some (.type "type")
  kC : PySem.W.keepIn K (.ref C) = true
section
variable {X : Cx} {pins : List (Addr × Obj)} {σ : L2.St} {H : Hp} {s : Shared} {z C : Addr} {fl : Str} {y : V} {u : Value} {E : Value → Shared → Prop} {A : Around}
theorem ost_newG {Q : Unit → Shared → Prop} (T : OexG X.K C) (I : Inv X pins σ H s) (ez : H z = some (exo z C none)) (no : PySem.W.findIn X.K (.ref C) fl = some none) (ry : RelV y u)
    (fin : ∀ dx s', H dx = none → dx ≠ z → Inv X pins σ (upd (upd H dx (exd dx [(fl, y)])) z (exo z C (some dx))) s' → Q () s') : wpAny (model X.prog X.w) A (setAttr (.ref z) fl u) Q E s := by
  obtain ⟨eb, nm, q, N, bs, bm, sn, sub, ab, col, dd, k0, k1, k2, k3, k5, hC, hbm⟩ := T.cls
  have clsE : PySem.W.clsIn X.K C = some { name := nm, bases := bs, mro := .ref C :: bm, ns := N, qualname := q, hasDict := true, slotNames := sn, subclasses := sub, abstract := ab, collection := col, hasDel := false } := by
    unfold PySem.W.clsIn
    rw [hC] <;> rfl
  obtain ⟨t1, oz⟩ := exo_at I.hok ez
  obtain ⟨hp, g, d, t, os⟩ := s
  refine PySem.W.set_plain I.kIn (ox := { cls := .ref C, dict := none, data := .fields #[.ref t1, .none, .none, .none, .bool false, .none] }) (od := none) ⟨oz, rfl, rfl, trivial⟩ T.sa ?_
  refine osaB (eb := eb) I.kIn oz clsE (show refsB eb (.ref C :: bm) = true from hbm) rfl no (fun h' tk' dx kp dn dne hx hn => ?_)
  have nD : H dx = none := I.hok.fresh dn
  have offD : ∀ {b : Addr} {o : Obj}, hp.get? b = some o → b ≠ dx := fun {b o} q => Nat.ne_of_lt (Nat.lt_of_lt_of_le (Heap.lt_size q) dn)
  have offZ : ∀ {b : Addr}, H b = none → b ≠ z := fun {b} n w => by
    rw [w, ez] at n
    cases n
  have U : Un X.fs [] H (upd (upd H dx (exd dx [(fl, y)])) z (exo z C (some dx))) hp h' := by
    constructor
    · exact fun b o q n _ _ => kp b o (offZ n) q
    · exact fun b o q n _ _ => ⟨o.slots, kp b o (offZ n) q⟩
    · exact fun b o q n _ => by rw [upd_ne (offZ n), upd_ne (offD q)]; exact n
    · exact fun b o q _ => by
        by_cases hb : b = z
        · exact ⟨_, by rw [hb]; exact hx⟩
        · exact ⟨o, kp b o hb q⟩
    · exact fun b xs q => by rw [upd_ne (at_ne ez q exo_tup), upd_ne (ne_of_none q nD)]; exact q
    · exact fun b o v q => by rw [upd_ne (at_ne ez q exo_frz), upd_ne (ne_of_none q nD)]; exact q
    · exact fun b ps q => ⟨#[], by rw [upd_ne (at_ne ez q exo_tbl), upd_ne (ne_of_none q nD), q]; simp⟩
  refine fin dx _ nD dne (I.un (t' := tk') U fun b o q => ?_)
  by_cases hb : b = z
  · subst hb
    rw [upd_same] at q
    cases q
    exact exo_ok hx
  · rw [upd_ne hb] at q
    by_cases hd : b = dx
    · subst hd
      rw [upd_same] at q
      cases q
      exact exd_ok hn (relO_put (fs := []) ry fun g => True.intro)
    · rw [upd_ne hd] at q
      refine (I.hok b o q).stay (fun c v hc w => kp c v ?_ w) (fun c hc => ?_) (fun c xs hc => ?_)
      · rcases hc with hc | hc
        · rw [hc]
          exact hb
        · exact at_ne ez hc exo_own
      · rw [upd_ne (at_ne ez hc exo_own), upd_ne (ne_of_none hc nD)]
        exact hc
      · rw [upd_ne (at_ne ez hc exo_tup), upd_ne (ne_of_none hc nD)]
        exact hc
end
/-- self.f = e, the first one -/
def tOstG (K : PySem.W.Frag) (fl : Str) (to te : TE) : TS := fun D σ H => te σ H fun y H1 => to σ H1 fun x H2 => ∃ z C : Addr, x = .ref z ∧ OexG K C ∧ PySem.W.findIn K (.ref C) fl = some none ∧ H2 z = some (exo z C none) ∧
  ∀ dx, H2 dx = none → dx ≠ z → D.nx σ (upd (upd H2 dx (exd dx [(fl, y)])) z (exo z C (some dx)))
section
variable {X : Cx} {o e : Expr} {es : List Expr} {to te : TE} {ta : TA} {fl : Str} {p p' pos : Pos}
theorem ps_ostG (ho : PE X o to) (he : PE X e te) (hs : swapsWith e (some (.Attribute o fl p')) pos.line X.env = pure false := by rfl) : PS X (.Assign [.Attribute o fl p'] e pos) (tOstG X.K fl to te) := by
  refine ⟨fun pins s σ H D I h => ?_⟩
  refine plainObj_wpAny_Assign_Attribute (thn (he.run pins s σ H _ I h) fun v s1 ⟨y, H1, I1, r1, q1⟩ => thn (ho.run pins s1 σ H1 _ I1 q1) fun u s2 ⟨x, H2, I2, r2, z, C, ex, T, no, ez, q⟩ => ?_) hs
  subst ex
  obtain rfl : u = Value.ref z := r2
  exact ost_newG T I2 ez no r1 fun dx s' n ne J => ⟨σ, _, J, q dx n ne⟩
end
end DD
set_option maxHeartbeats 1000000
namespace DD
open PySem PySem.Spec PyProof.Rows L2
/-- C's own __init__(self, f): self.f = f -/
def spX (C : Addr) (f : Str) : Sp := fun vs H Q _ => ∃ a y, vs = [.ref a, y] ∧ H a = some (exo a C none) ∧ ∀ dx, H dx = none → dx ≠ a → Q .non (upd (upd H dx (exd dx [(f, y)])) a (exo a C (some dx)))
structure ExF (P : Program) (w : World) (K : PySem.W.Frag) (mg : Str → Option Value) (base : Heap) (C f : Str) : Prop where
  oex : OexG K (cadr K C)
  no : PySem.W.findIn K (.ref (cadr K C)) f = some none
  init : ∃ fI fd ps, PySem.W.findIn K (.ref (cadr K C)) "__init__" = some (some (.ref fI)) ∧ PySem.W.typeIn K (.ref fI) = some (.type "function") ∧ FnOk P w K mg base (L2.CX P w) 1 fI fd ps (spX (cadr K C) f) ∧ Binds K fd ps []
section
variable {P : Program} {w : World} {K : PySem.W.Frag} {mg : Str → Option Value} {base : Heap}
theorem init1_ok {x qual p0 p1 f : Str} {params : Arguments} {scope : Scope} {fI : Addr} {fd : FuncData} {C : Addr} {N : List Str} {q0 q1 q2 q3 : Pos} (F : FunD K x qual params [.Assign [.Attribute (.Name p0 q0) f q1] (.Name p1 q2) q3] scope [] [] fI fd) (S : FnScope N [p0, p1] scope)
    (T : OexG K C) (hno : PySem.W.findIn K (.ref C) f = some none) (h0 : N[0]? = some p0) (h1 : N[1]? = some p1) (v0 : Vis scope p0) (v1 : Vis scope p1) (d0 : (p0 == ("__debug__" : Str)) = false := by decide) (d1 : (p1 == ("__debug__" : Str)) = false := by decide) (c0 : (p0 == ("__classdict__" : Str)) = false := by decide) (c1 : (p1 == ("__classdict__" : Str)) = false := by decide)
    (hs : ∀ (env : PySem.Env) , swapsWith (.Name p1 q2) (some (.Attribute (.Name p0 q0) f q1)) q3.line env = pure false) : FnOk P w K mg base (L2.CX P w) 1 fI fd [p0, p1] (spX C f) := by
  obtain ⟨oc, od, dV, kV, doc, pm, an, cdv, ct, osl, rfl, lk, hcd, _, _⟩ := F.ex
  refine fn_of (k := 0) lk hcd S (fun vs H Q E ⟨a, y, e, _⟩ => by rw [e]; rfl) fun A outer s H vs Q E hr hsp => ?_
  obtain ⟨a, y, rfl, ha, hq⟩ := hsp
  refine ⟨_, pss_one (ps_ostG (to := tVar 0) (te := tVar 1) (pe_var (i := 0) h0 v0 d0 c0) (pe_var (i := 1) h1 v1 d1 c1) (hs _)), ?_⟩
  exact ⟨y, rfl, .ref a, rfl, a, C, rfl, T, hno, ha, fun dx n ne => hq dx n ne⟩
end
section
variable {X : Cx} {W : WX} {fx : List Nat} {pos pos' p p2 np : Pos} {C f : Str}
theorem xd_same {H : Hp} {a dx C : Addr} {f : Str} {y : V} (ha : H a = none) (hd : H dx = none) (ne : dx ≠ a) : upd (L2.del (upd (upd (upd H a (exo a C none)) dx (exd dx [(f, y)])) a (exo a C (some dx))) a) dx (.xd [(f, y)]) = upd H dx (.xd [(f, y)]) := by
  funext b
  by_cases q : b = dx
  · subst q
    rw [upd_same, upd_same]
  · rw [upd_ne q, upd_ne q]
    by_cases q2 : b = a
    · subst q2
      rw [L2.del_same, ha]
    · rw [L2.del_ne q2, upd_ne q2, upd_ne q, upd_ne q2]
end
section
variable {K : PySem.W.Frag} {W : WX} {σ0 : L2.St} {F0 : Hp}
theorem zip_den {F : Hp} {f : Str} {d : D} : ∀ {ns : List Str} {ds : List D} {vs : List V}, ns.length = vs.length → Dens K F ds vs → (ns.zip ds).lookup f = some d → ∃ v, (ns.zip vs).lookup f = some v ∧ Den K F d v
  | [], _, _, _, _, h => by simp at h
  | n :: ns, [], _, _, _, h => by simp at h
  | n :: ns, d0 :: ds, vs, hl, hd, h => by
    obtain ⟨v, vr, rfl, dv, dr⟩ := hd
    rw [List.zip_cons_cons, List.lookup_cons] at h ⊢
    by_cases q : f == n
    · rw [q] at h ⊢
      cases h
      exact ⟨v, rfl, dv⟩
    · rw [show (f == n) = false from by simpa using q] at h ⊢
      exact zip_den (by simpa using hl) dr h
theorem rel_set {F H : Hp} {σ : L2.St} {env : DEnv} {fp : List Addr} {i : Nat} {x : Option V} (R : Rel K F H σ env fp) (h : env[i]? = some none) : Rel K F H (σ.set i x) env fp := by
  refine ⟨R.ex, ?_, R.nd, R.out⟩
  have key : ∀ {σ : L2.St} {env : DEnv} {fp : List Addr} (i : Nat), EnvAt K F H σ env fp → env[i]? = some none → EnvAt K F H (σ.set i x) env fp := by
    intro σ
    induction σ with
    | nil =>
      intro env fp i e h
      cases env with
      | nil => cases h
      | cons _ _ => exact e.elim
    | cons v σ ih =>
      intro env fp i e h
      cases env with
      | nil => exact e.elim
      | cons o env =>
        cases i with
        | zero =>
          cases h
          exact e
        | succ i =>
          cases o with
          | none => exact ih (env := env) (fp := fp) i e h
          | some o =>
            obtain ⟨y, f1, f2, r, s, h1, t⟩ := e
            exact ⟨y, f1, f2, r, s, h1, ih i t h⟩
  exact key i R.at_ h
end
def freeAt (e : DEnv) (i : Nat) : Bool := match e[i]? with
  | some none => true
  | _ => false
theorem freeAt_ok {e : DEnv} {i : Nat} (h : freeAt e i = true) : e[i]? = some none := by
  unfold freeAt at h
  split at h
  · rename_i q
    exact q
  · cases h
end DD
namespace DD
open PySem PySem.Spec PyProof.Rows L2 HotX L2H
end DD
namespace DD
open PySem PySem.Spec PyProof.Rows L2
section
variable {X : Cx} {W : WX} {fx : List Nat} {i : Nat} {C : Str} {a : Addr} {cls : Value} {d : Option Addr} {pos pos' np rp : Pos} {n f : Str}
theorem tab_only {tab : List (Str × Bool)} {C y : Str} (h : (tab.all fun p => !p.2 || decide (p.1 = C)) = true) (q : tab.lookup y = some true) : y = C := by
  induction tab with
  | nil => cases q
  | cons p t ih =>
    obtain ⟨k, b⟩ := p
    rw [List.all_cons, Bool.and_eq_true] at h
    by_cases z : y = k
    · subst z
      rw [List.lookup_cons_self] at q
      cases q
      simpa using h.1
    · rw [List.lookup_cons, show (y == k) = false from by rw [beq_eq_false_iff_ne]; exact z] at q
      exact ih h.2 q
end
theorem oexIn_ok {K : PySem.W.Frag} {C : Addr} (q : oexIn K C = true) : ∃ eb nm q N bs bm sn sub ab col dd k0 k1 k2 k3 k5, K.lookup C = some (excClassObj nm q C N bs bm true sn sub ab col dd k0 k1 k2 k3 k5 (EB.nw eb)) ∧ refsB eb bm = true := by
  unfold oexIn at q
  split at q
  · rename_i dd cd sl ho
    split at q
    · rename_i C' bm k0 k1 k2 k3 n k5 hm hs
      rw [Bool.and_eq_true, Bool.and_eq_true, Bool.and_eq_true, List.any_eq_true] at q
      obtain ⟨⟨⟨q1, hdel⟩, hdi⟩, eb, _, q2⟩ := q
      rw [Bool.and_eq_true] at q2
      obtain ⟨hn, hr⟩ := q2
      obtain rfl := beq_iff_eq.mp q1
      obtain rfl := beq_iff_eq.mp hn
      rw [Bool.not_eq_true'] at hdel
      obtain ⟨nm, bs, mro, ns, qn, hd, sn, sub, ab, col, del⟩ := cd
      dsimp only at hm hdel hdi
      subst hm hdel hdi
      have hsl : sl = #[k0, k1, k2, k3, some (.builtin (EB.nw eb)), k5] := by
        obtain ⟨l⟩ := sl
        simp only at hs
        rw [hs]
      subst hsl
      exact ⟨eb, nm, qn, ns, bs, bm, sn, sub, ab, col, dd, k0, k1, k2, k3, k5, ho, hr⟩
    · cases q
  · cases q
structure OexF (K : PySem.W.Frag) (C f : Str) : Prop where
  oex : OexG K (cadr K C)
  no : PySem.W.findIn K (.ref (cadr K C)) f = some none
  i : PySem.W.findIn K (.ref (cadr K C)) "__init__" = some (some (.ref (maL C "__init__" K)))
  t : PySem.W.typeIn K (.ref (maL C "__init__" K)) = some (.type "function")
  xf : XfC K (cadr K C)
theorem oexfB_ok {K : PySem.W.Frag} {C f : Str} (h : oexfB C f K = true) : OexF K C f := by
  unfold oexfB at h
  simp only [Bool.and_eq_true, decide_eq_true_iff] at h
  obtain ⟨h1, h2, h3, h4, h5, h6, h7, h8, h9⟩ := h
  exact ⟨⟨oexIn_ok h1, h2, h3, h4, h5⟩, h6, h7, h8, xfB_ok h9⟩
theorem exf_ok {P : Program} {w : World} {K : PySem.W.Frag} {mg : Str → Option Value} {base : Heap} {C f x qual p0 p1 : Str} {params : Arguments} {scope : Scope} {fd : FuncData} {N : List Str} {q0 q1 q2 q3 : Pos} (T : OexF K C f)
    (F : FunD K x qual params [.Assign [.Attribute (.Name p0 q0) f q1] (.Name p1 q2) q3] scope [] [] (maL C "__init__" K) fd) (S : FnScope N [p0, p1] scope) (hb : Binds K fd [p0, p1] [])
    (h0 : N[0]? = some p0) (h1 : N[1]? = some p1) (v0 : Vis scope p0) (v1 : Vis scope p1) (d0 : (p0 == ("__debug__" : Str)) = false) (d1 : (p1 == ("__debug__" : Str)) = false) (c0 : (p0 == ("__classdict__" : Str)) = false) (c1 : (p1 == ("__classdict__" : Str)) = false)
    (hs : ∀ (env : PySem.Env) , swapsWith (.Name p1 q2) (some (.Attribute (.Name p0 q0) f q1)) q3.line env = pure false) : ExF P w K mg base C f :=
  ⟨T.oex, T.no, _, fd, _, T.i, T.t, init1_ok F S T.oex T.no h0 h1 v0 v1 d0 d1 c0 c1 hs, hb⟩
end DD
set_option maxHeartbeats 2000000
namespace DD
open PySem PySem.Spec PyProof.Rows L2
def wClauses (K : PySem.W.Frag) (Wout : WX) (D : Ends) : List Cl → WX
  | [] => Wout
  | (c, i, ts) :: r => fun cls d σ H => ∃ b, PySem.W.exmOne K cls c = some b ∧
      (b = true → ∀ a, H a = none → ts a cls d { nx := fun σ' H' => D.nx (σ'.set i none) H', rt := D.rt, bk := fun σ' H' => D.bk (σ'.set i none) H', ct := fun σ' H' => D.ct (σ'.set i none) H' } (σ.set i (some (.ref a))) H) ∧ (b = false → wClauses K Wout D r cls d σ H)
def handX (e : DEnv) (x : Exn) : List ClM → RS
  | [] => .exc x e
  | (_, i, tab, suite) :: r => match tab.lookup x.cls with
    | some true => if freeAt e i = true then (match suite x e with
      | .ok d e' => .rt d e'
      | _ => .fail) else .fail
    | some false => handX e x r
    | none => .fail
section
variable {X : Cx} {W : WX} {fx : List Nat} {hds : List ExceptHandler} {ms : List ClM} {l : List Cl} {pos : Pos}
theorem ClsX.sn {F H : Hp} {σ : L2.St} {fp : List Addr} {D' : Ends} {x : Exn} {ee : DEnv} {F' H' : Hp} {σ' : L2.St} {fp' : List Addr} {c : Value} {dd : Option Addr} (h : ClsX X fx hds ms l) (P : Po F H fp F' H' fp') (z : Fx fx σ σ') (R' : Rel X.K F' H' σ' ee fp') (ea : ExAt X.K F' x c dd)
    (o : OutS X.K W fx F H σ fp D' (handX ee x ms)) : wClauses X.K W D' l c dd σ' H' := by
  induction h with
  | nil => exact o F' H' σ' fp' c dd P z R' ea
  | @cons C n i tab suite te e np rp pos' hds ms l hg hdb gC hi hln ht hto hfx hsu r ih =>
    obtain ⟨e1, _⟩ := id ea
    unfold handX at o
    cases q : tab.lookup x.cls with
    | none => rw [q] at o; exact o.elim
    | some bb =>
      have em := ht.at_ q
      rw [q] at o
      refine ⟨bb, by rw [e1]; exact em, fun hb a na => ?_, fun hb => ?_⟩
      · subst hb
        have o : OutS X.K W fx F H σ fp D' (if freeAt ee i = true then (match suite x ee with
          | .ok d e' => .rt d e'
          | _ => .fail) else .fail) := o
        by_cases hi3 : freeAt ee i = true
        · rw [if_pos hi3] at o
          have hi2 := freeAt_ok hi3
          have R2 : Rel X.K F' H' (σ'.set i (some (.ref a))) ee fp' := rel_set R' hi2
          have hil : i < σ'.length := by
            rw [R'.at_.length]
            exact (List.getElem?_eq_some_iff.mp hi2).1
          refine (hsu a { cls := c, dict := dd, data := .fields #[] } c dd [] ⟨rfl, rfl⟩ ⟨_, rfl⟩).sn x F' (σ'.set i (some (.ref a))) ea (tab_only hto q) (by rw [List.getElem?_set_self hil]) F' H' ee fp' _ (Ex.refl _) R2 ?_
          generalize suite x ee = rr at o
          cases rr with
          | fail => exact o.elim
          | exc x e => exact o.elim
          | ok d e' => exact fun F2 H2 fp2 v P2 R3 dv => o F2 H2 _ fp2 v (P.trans P2) (z.trans (Fx.set hfx)) R3 dv
        · rw [if_neg hi3] at o
          exact o.elim
      · subst hb
        exact ih o
end
end DD
set_option maxHeartbeats 3200000
namespace DD
open PySem PySem.Spec PyProof.Rows L2
end DD
set_option maxHeartbeats 1000000
namespace DD
open PySem PySem.Spec PyProof.Rows L2
end DD
namespace DD
open PySem PySem.Spec PyProof.Rows L2
end DD
set_option maxHeartbeats 4000000
namespace DD
open PySem PySem.Spec PyProof.Rows L2
end DD
set_option maxHeartbeats 200000
namespace DD
open PySem PySem.Spec PyProof.Rows L2
end DD
set_option maxHeartbeats 2000000
namespace DD
open PySem PySem.Spec PyProof.Rows L2
end DD
set_option maxHeartbeats 1000000
namespace DD
open PySem PySem.Spec PyProof.Rows L2
end DD
namespace DD
open PySem PySem.Spec PyProof.Rows L2
end DD
namespace DD
open PySem PySem.Spec PyProof.Rows L2
end DD
namespace DD
open PySem PySem.Spec PyProof.Rows L2
end DD
set_option maxHeartbeats 200000
namespace DD
open PySem PySem.Spec PyProof.Rows L2
end DD
set_option maxHeartbeats 2000000
namespace DD
open PySem PySem.Spec PyProof.Rows L2 LamX
end DD
namespace DD
open PySem PySem.Spec PyProof.Rows L2 LamX
end DD
set_option maxHeartbeats 1000000
namespace DD
open PySem PySem.Spec PyProof.Rows L2
end DD
namespace DD
open PySem PySem.Spec PyProof.Rows L2
end DD
namespace DD
open PySem PySem.Spec PyProof.Rows L2
end DD
namespace DD
open PySem PySem.Spec PyProof.Rows L2
end DD
set_option maxHeartbeats 200000
namespace DD
open PySem PySem.Spec PyProof.Rows L2
end DD
set_option maxHeartbeats 1000000
namespace L2
open PySem PySem.Spec PyProof.Rows
end L2
namespace DD
open PySem PySem.Spec PyProof.Rows L2
end DD
namespace DD
open PySem PySem.Spec PyProof.Rows L2
end DD
namespace DD
open PySem PySem.Spec PyProof.Rows L2
end DD
namespace DD
open PySem PySem.Spec PyProof.Rows L2
inductive RJ where
  | ok (d : D) (o1 o2 : O) | exc (x : Exn) (o1 o2 : O) | fail
section
variable {K : PySem.W.Frag} {W : WX} {t1 : TE} {t2 : TA} {m1 : MD} {m2 : MA} {np nq i k : Nat} {f : O → O → List D → List D → RJ}
theorem Rel.slot {F H : Hp} {σ : L2.St} {env : DEnv} {fp : List Addr} {o : O} (R : Rel K F H σ env fp) (e : env[i]? = some (some o)) : ∃ v, σ[i]? = some (some v) := by
  obtain ⟨v, _, _, s, _⟩ := R.split e
  exact ⟨v, s⟩
end
end DD
namespace DD
open PySem PySem.Spec PyProof.Rows L2
end DD
set_option maxHeartbeats 2000000
namespace DD
open PySem PySem.Spec PyProof.Rows L2
end DD
set_option maxHeartbeats 1000000
namespace DD
open PySem PySem.Spec PyProof.Rows L2 HotX L2H
end DD
set_option maxHeartbeats 2000000
namespace PySem.W
open PySem PySem.Spec PySem.Calls PyProof.Rows
section
variable {prog : Program} {w : World} {A : Around} {E : Value → Shared → Prop} {s : Shared} {K : Frag} {x D : Addr} {ox : Obj} {od : Option Obj}
theorem ddN_findObj {C : Addr} {name : Str} {a g : Value} (hc : (clsIn K C).isSome = true) (ha : findIn K (.ref C) name = some (some a)) (hg : specialIn K a "__get__" = some (some g)) (ht : takesIn K a = some true) : findObj K C od name = some (.bind g a) := by
  obtain ⟨cd, hc⟩ := Option.isSome_iff_exists.mp hc
  unfold findObj
  rw [hc, Option.bind_some, ha, Option.bind_some]
  simp [hg, ht]
theorem ddN_classE {Q : Option Value → Shared → Prop} (hga : findIn K (.ref D) "__getattribute__" = some (some (.builtin "BaseException.__getattribute__"))) (hgt : findIn K (.ref D) "__getattr__" = some none) (hsub : subIn K (.ref D) (.type "BaseException") = some true)
    (hdct : hasDictIn K D = true) (ha : findIn K (.ref D) "__class__" = some (some (.builtin "object.__class__")))
    (hn : specialIn K (.builtin "object.__class__") "__get__" = some (some (.builtin "getset_descriptor.__get__"))) (htk : takesIn K (.builtin "object.__class__") = some true) (hm : mroIn K D (.type "object") = some true)
    (X : K.In s.heap) (I : InstAt s.heap x ox D od) (h : Q (some (.ref D)) { s with toks := s.toks + 1 }) : wpAny (model prog w) A (getAttr? (.ref x) "__class__") Q E s := by
  have hf : findObj K D od "__class__" = some (.bind (.builtin "getset_descriptor.__get__") (.builtin "object.__class__")) := ddN_findObj (by obtain ⟨cd, hc, _⟩ := any_some hdct; rw [hc]; rfl) ha hn htk
  obtain ⟨hp, g, d, t, os⟩ := s
  have L0 := I.type (M := model prog w)
  have L1 := looks_findIn (M := model prog w) X hga
  have L2 := looks_findIn (M := model prog w) X hgt
  have L3 := looks_find (M := model prog w) X I hf
  have sub : Looks (model prog w) hp (isInstance (.ref x) (.type "BaseException")) true := L0.andThen (looks_subIn X hsub)
  have hx0 : (false && onTheHeap (Value.builtin "BaseException.__getattribute__")) = false := rfl
  have hx2 : (Value.builtin "BaseException.__getattribute__" == Value.builtin "object.__getattribute__") = false := by decide +kernel
  have hx1 : (onTheHeap (Value.ref D) && Value.builtin "BaseException.__getattribute__" == Value.builtin "object.__getattribute__") = false := by rw [hx2]; rfl
  unfold getAttr? getAttrBy? getAttrBy
  refine wpAny_bind (wpAny_mkText (wpAny_bind (wpAny_attempt (wpAny_holding (wpAny_bind (L0.at (wpAny_bind (L1.at ?_))))))))
  show wpAny _ _ (if (onTheHeap (Value.ref D) && Value.builtin "BaseException.__getattribute__" == Value.builtin "object.__getattribute__") = true then _ else _) _ _ _
  rw [hx1, if_neg Bool.false_ne_true]
  unfold getAttrByItsOwn hookBefore
  refine wpAny_bind ?_
  rw [if_pos (show onTheHeap (Value.ref D) = true from rfl)]
  refine L2.at ?_
  refine wpAny_bind (wpAny_attempt (wpAny_holding ?_))
  unfold callGetattribute
  rw [hx0, if_neg Bool.false_ne_true]
  unfold boundAndCalled
  rw [PySem.F.excAttr_ValueError.ga.bind (.ref x)]
  refine wpAny_bind (wpAny_pure ?_)
  show wpAny _ _ (call (.builtin "BaseException.__getattribute__") [.ref x, .str "__class__" t]) _ _ _
  refine wpAny_call (codeAny_call_builtin PySem.F.excAttr_ValueError.ga.plain PySem.F.entry_bexc_ga ?_)
  refine @check_slot (model prog w) _ _ ⟨hp, g, d, t + 1, os⟩ "BaseException.__getattribute__" "BaseException" "__getattribute__" (.ref x) [.str "__class__" t] [] _ (by decide +kernel) (by decide +kernel) sub (PySem.F.args_bexc_ga (.ref x) (.str "__class__" t)) ?_
  unfold Builtin.«object.__getattribute__»
  refine wpAny_bind (wpAny_of_eq (a := ((Value.ref x : Value), [Value.str "__class__" t])) (by first | rfl | (simp only [slotArgs]; rfl)) ?_)
  refine wpAny_bind (wpAny_pure (wpAny_bind (L0.at (wpAny_bind (L3.at ?_)))))
  show wpAny _ _ (holding [Value.builtin "object.__class__"] (call (.builtin "getset_descriptor.__get__") [.builtin "object.__class__", .ref x, .ref D]) >>= ret) _ _ _
  refine wpAny_bind (wpAny_holding (wpAny_call (class_get (s := ⟨hp, g, d, t + 1, os⟩) (ox := ox) (od := od) X I hm ?_)))
  refine wpAny_pure ?_
  show wpAny _ _ (handedOut (.ref D)) _ _ _
  rw [handedOut_of (v := .ref D) rfl]
  first
    | exact wpAny_pure (wpAny_pure h)
    | exact wpAny_pure h
    | exact wpAny_pure (wpAny_bind (wpAny_pure (wpAny_pure h)))
theorem ddN_kitx (hga : findIn K (.ref D) "__getattribute__" = some (some (.builtin "BaseException.__getattribute__"))) (hgt : findIn K (.ref D) "__getattr__" = some none) (hsub : subIn K (.ref D) (.type "BaseException") = some true) (hdct : hasDictIn K D = true) (ha : findIn K (.ref D) "__class__" = some (some (.builtin "object.__class__")))
    (hn : specialIn K (.builtin "object.__class__") "__get__" = some (some (.builtin "getset_descriptor.__get__"))) (htk : takesIn K (.builtin "object.__class__") = some true) (hm : mroIn K D (.type "object") = some true) :
    KitX K (.ref x) (.ref D) (fun h => InstAt h x ox D od) where
  ty := fun _ _ _ I => I.type
  it := fun _ _ X _ => by
    obtain ⟨cdD, hcD, _⟩ := any_some hdct
    unfold clsIn at hcD
    split at hcD
    · rename_i c' d' cd' sl' ho
      intro A' Q' E' s' k q
      unfold isType loadHead
      exact wpAny_bind (wpAny_loadPart (k _ _ (X _ _ ho)) (wpAny_pure q))
    · cases hcD
  ne := fun h tp dd its n sl X htp => by
    obtain ⟨cdD, hcD, _⟩ := any_some hdct
    refine Bool.eq_false_iff.mpr fun q => ?_
    have e : D = tp := Value.ref.inj (beq_iff_eq.mp q)
    subst e
    unfold clsIn at hcD
    split at hcD
    · rename_i c' d' cd' sl' ho
      have z := (X _ _ ho).symm.trans htp
      cases z
    · cases hcD
  ca := fun X I k => ddN_classE hga hgt hsub hdct ha hn htk hm X I k
end
end PySem.W
namespace DD
open PySem PySem.Spec PyProof.Rows L2
/-- the caught exception at a: what the heap says -/
theorem exn_inst {P : Program} {w : World} {H : Hp} {h : Heap} {D a : Addr} {dd : Option Addr} (ok : HOk P w H h) (ha : H a = some (.ext (ExnOk (.ref D) a dd))) (hd : dd = none ∨ ∃ d fs, dd = some d ∧ H d = some (.xd fs)) :
    ∃ oe od, PySem.W.InstAt h a oe D od ∧ ∀ d fs, dd = some d → H d = some (.xd fs) → ∃ o mA, od = some o ∧ h.get? d = some o ∧ h.Ns1 d mA ∧ ∀ f, L2.RelO (fs.lookup f) (mA f) := by
  obtain ⟨⟨oe, vs, g1, g2, g3, g4⟩, _, _⟩ := ok a _ ha
  have no : PySem.W.notCls oe = true := by unfold PySem.W.notCls; rw [g4] <;> rfl
  rcases hd with hd | ⟨d, fs, hd, hx⟩
  · refine ⟨oe, none, ⟨g1, g2, no, ?_⟩, fun d fs e _ => ?_⟩
    · rw [g3, hd]
      trivial
    · rw [hd] at e
      cases e
  · obtain ⟨mA, hns, hr⟩ := (show ObjOk P w H h d (.xd fs) from ok d _ hx)
    obtain ⟨od, ho, hl⟩ := lookIn_ns hns
    refine ⟨oe, some od, ⟨g1, g2, no, ?_⟩, fun d' fs' e hx' => ?_⟩
    · rw [g3, hd]
      exact ho
    · rw [hd] at e
      cases e
      rw [hx] at hx'
      cases hx'
      exact ⟨od, mA, rfl, ho, hns, hr⟩
/-- isinstance(e, c) -/
def rIsX (K : PySem.W.Frag) : List V → Hp → VK → Prop := fun xs H Q => ∃ (a D : Addr) (dd : Option Addr) (c : V) (cv : Value) (b : Bool), xs = [.ref a, c] ∧ H a = some (.ext (ExnOk (.ref D) a dd)) ∧ (dd = none ∨ ∃ d fs, dd = some d ∧ H d = some (.xd fs)) ∧ (∀ u, RelV c u → u = cv) ∧ ExcC K D ∧ PySem.W.kitOne K (.ref D) cv = some b ∧ Q (.bl b) H
theorem call_isX {X : Cx} : CallR X (.builtin "isinstance") (rIsX X.K) := by
  intro pins s σ H xs us Q I r h
  obtain ⟨a, D, dd, c, cv, b, rfl, ha, hd, hcv, C, e, q⟩ := h
  cases r with
  | cons rx rr =>
    cases rr with
    | cons rt rr =>
      cases rr
      cases rx
      have ec := hcv _ rt
      subst ec
      obtain ⟨oe, od, J, _⟩ := exn_inst I.hok ha hd
      exact PySem.W.kia_one (PySem.W.ddN_kitx C.hg C.hk C.hs C.hd C.ha C.hn C.ht C.hm) I.kIn J e (fun z => nomatch z) fun tk => ⟨.bl b, H, I.kept (t' := tk) fun _ _ z => z, rfl, q⟩
/-- the exceptions that are told of are such classes -/
def ExCs (K : PySem.W.Frag) (L : List Str) : Prop := ∀ c ∈ L, ExcC K (cadr K c) ∧ XfC K (cadr K c)
def isED (T : List Str) (L : List (Str × Bool)) : D → Option D
  | .exn c _ _ => if T.contains c = true then (L.lookup c).map .bl else none
  | _ => none
theorem den_exn {K : PySem.W.Frag} {F H : Hp} {C : Str} {ns : List Str} {ds : List D} {v : V} (e : FH F H) (h : Den K F (.exn C ns ds) v) : ∃ a dd, v = .ref a ∧ H a = some (.ext (ExnOk (.ref (cadr K C)) a dd)) ∧ (dd = none ∨ ∃ d fs, dd = some d ∧ H d = some (.xd fs)) ∧
    ((ns = [] ∧ ds = []) ∨ ∃ d vs, dd = some d ∧ H d = some (.xd (ns.zip vs)) ∧ ns.length = vs.length ∧ Dens K F ds vs) := by
  obtain ⟨a, dd, rfl, h1, h2⟩ := h
  refine ⟨a, dd, rfl, e.at_ _ _ h1 rfl, ?_, ?_⟩
  · rcases h2 with ⟨_, _, z⟩ | ⟨d, vs, z, h3, _⟩
    · exact .inl z
    · exact .inr ⟨d, _, z, e.at_ _ _ h3 rfl⟩
  · rcases h2 with ⟨z1, z2, _⟩ | ⟨d, vs, z, h3, h4, h5⟩
    · exact .inl ⟨z1, z2⟩
    · exact .inr ⟨d, vs, z, e.at_ _ _ h3 rfl, h4, h5⟩
section
variable {X : Cx} {W : WX} {pos : Pos} {e : Expr} {te : TE} {me : MD} {T : List Str}
theorem sn_isE {K : PySem.W.Frag} {cv : Value} {c : V} {L : List (Str × Bool)} (ec : ExCs K T) (il : IsEL K cv L) (hcv : ∀ u, RelV c u → u = cv) (he : Sn K W (Den K) emp te me) :
    Sn K W (Den K) emp (tCB (rIsX K) (tCons te (tCons (tC c) tNil))) (mUn (isED T L) me) := by
  intro F H σ env fp Q _ R h
  refine he.go ex_emp R h fun F1 H1 fp1 env1 d v P1 R1 d1 h1 => ?_
  obtain ⟨z, e1, k⟩ := out_ofO R1 h1
  cases d with
  | exn C ns ds =>
    have e2 : (if T.contains C = true then (L.lookup C).map D.bl else none) = some z := e1
    by_cases hT : T.contains C = true
    · rw [if_pos hT] at e2
      obtain ⟨b, e3, rfl⟩ := Option.map_eq_some_iff.mp e2
      obtain ⟨a, dd, rfl, ha, hd, _⟩ := den_exn R1.ex d1
      exact ⟨a, cadr K C, dd, c, cv, b, rfl, ha, hd, hcv, (ec C (by simpa using hT)).1, il.at_ e3, k F1 H1 _ (Gr.refl R1.ex) rfl⟩
    · rw [if_neg hT] at e2
      cases e2
  | _ => cases e1
/-- isinstance(e, C), C an own class -/
theorem pd_isE {C : Str} {L : List (Str × Bool)} {p2 p3 : Pos} (ec : ExCs X.K T) (il : IsEL X.K (.ref (cadr X.K C)) L) (hg : Gl X "isinstance") (hm : X.mg "isinstance" = none) (hg2 : Gl X C) (hm2 : X.mg C = some (.ref (cadr X.K C)))
    (he : PD X W e te me) (hd : (C == ("__debug__" : Str)) = false := by decide)
    (hs2 : starEach [.Name C p3] X.env = (false, eval (.Name C p3) X.env) :: starEach [] X.env := by rfl)
    (hs : starEach [e, .Name C p3] X.env = (false, eval e X.env) :: starEach [.Name C p3] X.env := by rfl) (hpl : (backTo pos (starEach [.Name C p3] X.env)).any (·.1) = false := by rfl) :
    PD X W (.Call (.Name "isinstance" p2) [e, .Name C p3] [] pos) (tCB (rIsX X.K) (tCons te (tCons (tC (.ref (cadr X.K C))) tNil))) (mUn (isED T L) me) :=
  ⟨pe_callB call_isX hg hm (by decide +kernel) (pa_cons he.pe (pa_cons (pe_glob hg2 hm2 rfl hd) pa_nil hs2) hs) (by decide) (by decide) hs hpl, sn_isE ec il (fun u h => h) he.sn⟩
/-- isinstance(e, y), y a built-in class -/
theorem pd_isEb {B : String} {y : Str} {L : List (Str × Bool)} {p2 p3 : Pos} (ec : ExCs X.K T) (il : IsEL X.K (.type B) L) (hg : Gl X "isinstance") (hm : X.mg "isinstance" = none) (hg2 : Gl X y) (hm2 : X.mg y = none) (hv2 : bootBuiltins y = some (.type B))
    (he : PD X W e te me) (hn : y ≠ "__name__" := by decide) (hd : (y == ("__debug__" : Str)) = false := by decide)
    (hs2 : starEach [.Name y p3] X.env = (false, eval (.Name y p3) X.env) :: starEach [] X.env := by rfl)
    (hs : starEach [e, .Name y p3] X.env = (false, eval e X.env) :: starEach [.Name y p3] X.env := by rfl) (hpl : (backTo pos (starEach [.Name y p3] X.env)).any (·.1) = false := by rfl) :
    PD X W (.Call (.Name "isinstance" p2) [e, .Name y p3] [] pos) (tCB (rIsX X.K) (tCons te (tCons (tC (.ty B)) tNil))) (mUn (isED T L) me) :=
  ⟨pe_callB call_isX hg hm (by decide +kernel) (pa_cons he.pe (pa_cons (pe_bltn hg2 hm2 hv2 (rfl : RelV (.ty B) (.type B)) hn hd) pa_nil hs2) hs) (by decide) (by decide) hs hpl, sn_isE ec il (fun u h => h) he.sn⟩
end
def fldED (T : List Str) (f : Str) : D → Option D
  | .exn c ns ds => if T.contains c = true then (ns.zip ds).lookup f else none
  | _ => none
def tFldE (K : PySem.W.Frag) (T : List Str) (f : Str) (te : TE) : TE := fun σ H Q => te σ H fun x H1 => ∃ (a : Addr) (C : Str) (d : Addr) (fs : List (Str × V)) (v : V), x = .ref a ∧ C ∈ T ∧ H1 a = some (.ext (ExnOk (.ref (cadr K C)) a (some d))) ∧ H1 d = some (.xd fs) ∧ fs.lookup f = some v ∧ Q v H1
/-- no class that is told of has an attribute f of its own -/
def NoFs (K : PySem.W.Frag) (T : List Str) (f : Str) : Prop := ∀ c ∈ T, PySem.W.findIn K (.ref (cadr K c)) f = some none
section
variable {X : Cx} {W : WX} {pos : Pos} {e : Expr} {te : TE} {me : MD} {T : List Str} {f : Str}
theorem sn_fldE {K : PySem.W.Frag} (he : Sn K W (Den K) emp te me) : Sn K W (Den K) emp (tFldE K T f te) (mUn (fldED T f) me) := by
  intro F H σ env fp Q _ R h
  refine he.go ex_emp R h fun F1 H1 fp1 env1 d v P1 R1 d1 h1 => ?_
  obtain ⟨z, e1, k⟩ := out_ofO R1 h1
  cases d with
  | exn C ns ds =>
    have e2 : (if T.contains C = true then (ns.zip ds).lookup f else none) = some z := e1
    by_cases hT : T.contains C = true
    · rw [if_pos hT] at e2
      obtain ⟨a, dd, rfl, ha, _, hd⟩ := den_exn R1.ex d1
      rcases hd with ⟨n0, _⟩ | ⟨d, vs, rfl, hx, hl, hv⟩
      · rw [n0] at e2
        cases e2
      · obtain ⟨y, hy1, hy2⟩ := zip_den hl hv e2
        exact ⟨a, C, d, _, y, rfl, by simpa using hT, ha, hx, hy1, k F1 H1 y (Gr.refl R1.ex) hy2⟩
    · rw [if_neg hT] at e2
      cases e2
  | _ => cases e1
theorem pe_fldE (ec : ExCs X.K T) (nf : NoFs X.K T f) (he : PE X e te) (hb : attributeBase e f X.env (eval e X.env) = eval e X.env := by rfl) : PE X (.Attribute e f pos) (tFldE X.K T f te) := by
  refine ⟨fun pins s σ H Q I h => ?_⟩
  refine attr_of hb (thn (he.run pins s σ H _ I h) fun u s1 hh => ?_)
  obtain ⟨x, H1, I1, rx, a, C, d, fs, v, ex, hC, ha, hd, l, q⟩ := hh
  subst ex
  obtain rfl : u = Value.ref a := rx
  obtain ⟨oe, od, J, hJ⟩ := exn_inst I1.hok ha (.inr ⟨d, fs, rfl, hd⟩)
  obtain ⟨o, mA, rfl, ho, hns, hr⟩ := hJ d fs rfl hd
  obtain ⟨od', ho', hl⟩ := lookIn_ns hns
  rw [ho] at ho'
  cases ho'
  obtain ⟨u, hu, ru⟩ := L2.RelO.some_of (v := v) (o := mA f) (by rw [← l]; exact hr f)
  have T := (ec C hC).2
  exact HandSPX.exc_get I1.kIn J T.ga T.gg T.exC (PySem.W.findObj_own T.hdC (nf C hC) rfl (by rw [hl, hu])) (handed_of ru) ⟨v, H1, I1.tok _, ru, q⟩
theorem pd_fldE (ec : ExCs X.K T) (nf : NoFs X.K T f) (he : PD X W e te me) (hb : attributeBase e f X.env (eval e X.env) = eval e X.env := by rfl) : PD X W (.Attribute e f pos) (tFldE X.K T f te) (mUn (fldED T f) me) := ⟨pe_fldE ec nf he.pe hb, sn_fldE he.sn⟩
end
theorem excsB_ok {K : PySem.W.Frag} {T : List Str} (h : excsB T K = true) : ExCs K T := fun c hc => by
  have h1 := List.all_eq_true.mp h c hc
  unfold excCB at h1
  simp only [Bool.and_eq_true, decide_eq_true_iff] at h1
  obtain ⟨h1, h2, h3, h4, h5, h6, h7, h8, h9⟩ := h1
  exact ⟨⟨h1, h2, h3, h4, h5, h6, h7, h8⟩, xfB_ok h9⟩
theorem nofsB_ok {K : PySem.W.Frag} {T : List Str} {f : Str} (h : nofsB T f K = true) : NoFs K T f := fun c hc => of_decide_eq_true (List.all_eq_true.mp h c hc)
theorem isEL_of {K : PySem.W.Frag} {cv : Value} : ∀ {L : List (Str × Bool)}, (∀ p ∈ L, PySem.W.kitOne K (.ref (cadr K p.1)) cv = some p.2) → IsEL K cv L
  | [], _ => .nil
  | (c, b) :: L, h => .cons (h (c, b) List.mem_cons_self) (isEL_of fun p hp => h p (List.mem_cons_of_mem _ hp))
theorem isEB_ok {K : PySem.W.Frag} {C : Str} {L : List (Str × Bool)} (h : isEB C L K = true) : IsEL K (.ref (cadr K C)) L := isEL_of fun p hp => of_decide_eq_true (List.all_eq_true.mp h p hp)
theorem bt_ValueError : bootBuiltins "ValueError" = some (.type "ValueError") := by decide +kernel
theorem bt_LookupError : bootBuiltins "LookupError" = some (.type "LookupError") := by decide +kernel
theorem bt_ArithmeticError : bootBuiltins "ArithmeticError" = some (.type "ArithmeticError") := by decide +kernel
theorem isEbB_ok {K : PySem.W.Frag} {B : String} {L : List (Str × Bool)} (h : isEbB B L K = true) : IsEL K (.type B) L := isEL_of fun p hp => of_decide_eq_true (List.all_eq_true.mp h p hp)
end DD
namespace DD
open PySem PySem.Spec PyProof.Rows L2
end DD
namespace DD
open PySem PySem.Spec PyProof.Rows L2 LamX
end DD
namespace DD
open PySem PySem.Spec PyProof.Rows L2 HotX L2H
open Builtin Builtin.List
end DD
set_option maxHeartbeats 1000000
namespace DD
open PySem PySem.Spec PyProof.Rows L2
end DD
namespace DD
open PySem PySem.Spec PyProof.Rows L2
end DD
namespace DD
open PySem PySem.Spec PyProof.Rows L2
end DD
namespace DD
open PySem PySem.Spec PyProof.Rows L2
end DD
set_option maxHeartbeats 200000
namespace DD
open PySem PySem.Spec PyProof.Rows L2
end DD
set_option maxHeartbeats 1000000
namespace DD
open PySem PySem.Spec PyProof.Rows L2
mutual
inductive DpN (K : PySem.W.Frag) (H : Hp) : V → PyData → Prop
  | non : DpN K H .non .none
  | bl (b : Bool) : DpN K H (.bl b) (.bool b)
  | int (i : Int) : DpN K H (.int i) (.int i)
  | str (x : Str) : DpN K H (.str x) (.str x)
  | lst {a : Addr} {xs : List V} {ds : List PyData} : SqL K H a xs → DpNs K H xs ds → DpN K H (.ref a) (.list ds)
  | tup {a : Addr} {xs : List V} {ds : List PyData} : SqT K H a xs → DpNs K H xs ds → DpN K H (.ref a) (.tuple ds)
  | dct {a : Addr} {o : Obj} : H a = some (.frz o (.dK [])) → DpN K H (.ref a) (.dict [])
  | dct1 {a : Addr} {o : Obj} (x : Str) (i : Int) : H a = some (.frz o (.dK [(.inr x, .int i)])) → DpN K H (.ref a) (.dict [(.str x, .int i)])
inductive DpNs (K : PySem.W.Frag) (H : Hp) : List V → List PyData → Prop
  | nil : DpNs K H [] []
  | cons {v : V} {vs : List V} {d : PyData} {ds : List PyData} : DpN K H v d → DpNs K H vs ds → DpNs K H (v :: vs) (d :: ds)
end
section
variable {X : Cx} {pins : List (Addr × Obj)} {σ : L2.St} {H : Hp} {s : Shared}
theorem dict_reads (I : Inv X pins σ H s) {a : Addr} {o : Obj} (h : H a = some (.frz o (.dK []))) : (a == sysModules) = false ∧ s.heap.get? a = some o ∧ o.cls = .type "dict" ∧ ∃ n, o.data = .dict #[] n := by
  obtain ⟨hs0, ho, hx, es, ep, vs, hdt, hsz, kv, hat⟩ := I.frzK h
  have hes : es = #[] := Array.eq_empty_of_size_eq_zero hsz
  subst hes
  exact ⟨hs0, ho, hx.1, ep, hdt⟩
theorem dict_reads1 (I : Inv X pins σ H s) {a : Addr} {o : Obj} {x : Str} {i : Int} (h : H a = some (.frz o (.dK [(.inr x, .int i)]))) : (a == sysModules) = false ∧ s.heap.get? a = some o ∧ o.cls = .type "dict" ∧ ∃ (e : DictEntry) (es : Array DictEntry) (n : Nat) (t1 t2 : Tok), o.data = .dict es n ∧ es.toList = [e] ∧ e.key = .str x t1 ∧ e.val = .int i t2 := by
  obtain ⟨hs0, ho, hx, es, ep, vs, hdt, hsz, kv, hat⟩ := I.frzK h
  obtain ⟨o2, es2, ho2, _, hd2, _, hp, _⟩ := hat
  rw [ho] at ho2
  cases ho2
  rw [hdt] at hd2
  cases hd2
  cases kv with
  | @cons p q _ _ r rr =>
    cases rr
    obtain ⟨k, u⟩ := q
    obtain ⟨r1, r2⟩ := r
    have r1' : (Sum.inr x : Key) = k := r1
    subst r1'
    obtain ⟨t2, r2'⟩ := (show ∃ t : Tok, u = .int i t from r2)
    cases he : es.toList with
    | nil =>
      rw [he] at hp
      cases hp
    | cons e r =>
      rw [he] at hp
      cases hp with
      | cons h1 h2 h3 =>
        cases h3
        rcases keyIs_shape (show keyIs (Sum.inr x) e.key = true from h1) with ⟨j, t, z, _⟩ | ⟨y, t, z, z2⟩
        · cases z
        · cases z
          exact ⟨hs0, ho, hx.1, e, es, ep, t, t2, hdt, he, z2, by rw [h2, ← r2']⟩
theorem dict_rd1 (I : Inv X pins σ H s) {a : Addr} {o : Obj} {x : Str} {i : Int} (h : H a = some (.frz o (.dK [(.inr x, .int i)]))) : (a == sysModules) = false ∧ ∃ as, Reads s.heap (.ref a) (.dict [(.str x, .int i)]) (a :: as) ∧ as = [] := by
  obtain ⟨hs0, ho, hc, e, es, n, t1, t2, hd, he, hk, hv⟩ := dict_reads1 I h
  refine ⟨hs0, _, Reads.dict (kvs := [(.str x, .int i)]) (as := [] ++ []) (bs := [] ++ []) ho hc hd ?_ ?_, rfl⟩
  · rw [he]
    show ReadsAll s.heap [e.key] [PyData.str x] _
    rw [hk]
    exact ReadsAll.cons (Reads.str x t1) ReadsAll.nil
  · rw [he]
    show ReadsAll s.heap [e.val] [PyData.int i] _
    rw [hv]
    exact ReadsAll.cons (Reads.int i t2) ReadsAll.nil
mutual
theorem repr_of_dpN (I : Inv X pins σ H s) : ∀ (d : PyData) (v : V) (u : Value), DpN X.K H v d → RelV v u → d.showable = true → d.shown.length ≤ sizeLine →
    ∃ as bs, Reads s.heap u d as ∧ ReadAtMost s.heap d.depth bs ∧ ReprK X.prog X.w bs s.heap d.depth u d.shown
  | .none, _, _, h, r, _, _ => by
    cases h; cases r
    exact ⟨_, [], Reads.none, (fun _ h => nomatch h), by simp only [PyData.shown]; exact .of_is ReprIs.none _ _ _⟩
  | .bool b, _, _, h, r, _, _ => by
    cases h; cases r
    exact ⟨_, [], Reads.bool b, (fun _ h => nomatch h), by simp only [PyData.shown]; exact .of_is (ReprIs.bool b) _ _ _⟩
  | .int i, _, _, h, r, hs, _ => by
    cases h
    obtain ⟨t, rfl⟩ := r
    exact ⟨_, [], Reads.int i t, (fun _ h => nomatch h), by simp only [PyData.shown]; exact .of_is (ReprIs.int t (by simpa [PyData.showable] using hs)) _ _ _⟩
  | .str x, _, _, h, r, _, hz => by
    cases h
    obtain ⟨t, rfl⟩ := r
    exact ⟨_, [], Reads.str x t, (fun _ h => nomatch h), by simp only [PyData.shown]; exact .of_is (ReprIs.str x t (by simpa only [PyData.shown] using hz)) _ _ _⟩
  | .list ds, _, _, h, r, hs, hz => by
    cases h with
    | @lst a xs _ hq ha =>
      cases r
      obtain ⟨its, rv, ⟨o, n, ho, hc, _, hd⟩, _⟩ := I.list hq
      have hz' : (listText (PyData.shownAll ds)).length ≤ sizeLine := by simpa only [PyData.shown] using hz
      obtain ⟨as, bs, hr, hb, hk⟩ := repr_of_dpNs I ds _ its ha rv (by simpa [PyData.showable] using hs) (fun t ht => Nat.le_trans (listText_mem_le ht) hz')
      have rr : Reads s.heap (.ref a) (.list ds) _ := Reads.list ho hc hd hr
      have hna : a ∉ bs := not_mem_of_deeper rr (by simp only [PyData.depth]; omega) hb
      refine ⟨_, a :: bs, rr, ReadAtMost.cons rr (by simp only [PyData.depth]; omega) hb, ?_⟩
      simp only [PyData.depth, PyData.shown]
      cases its with
      | nil =>
        cases hr
        simp only [PyData.shownAll, listText_nil]
        exact ReprK.listEmpty ho hc hd
      | cons x l => exact ReprK.list ho hc hd hna (by simpa using hk.length_eq) (fun i y e => hk.item i y (by simpa using e))
  | .tuple ds, _, _, h, r, hs, hz => by
    cases h with
    | @tup a xs _ hq ha =>
      cases r
      obtain ⟨its, rv, ⟨o, ho, hc, n, hd⟩, _⟩ := I.tuple hq
      have hz' : (tupleText (PyData.shownAll ds)).length ≤ sizeLine := by simpa only [PyData.shown] using hz
      obtain ⟨as, bs, hr, hb, hk⟩ := repr_of_dpNs I ds _ its ha rv (by simpa [PyData.showable] using hs) (fun t ht => Nat.le_trans (tupleText_mem_le ht) hz')
      have rr : Reads s.heap (.ref a) (.tuple ds) _ := Reads.tuple ho hc hd hr
      have hna : a ∉ bs := not_mem_of_deeper rr (by simp only [PyData.depth]; omega) hb
      refine ⟨_, a :: bs, rr, ReadAtMost.cons rr (by simp only [PyData.depth]; omega) hb, ?_⟩
      simp only [PyData.depth, PyData.shown]
      exact ReprK.tuple ho hc hd hna (by simpa using hk)
  | .dict kvs, _, _, h, r, hs, hz => by
    cases h with
    | @dct a o hq =>
      cases r
      obtain ⟨hs0, ho, hc, n, hd⟩ := dict_reads I hq
      have rr : Reads s.heap (.ref a) (.dict []) (a :: [] ++ []) := Reads.dict (kvs := []) (as := []) (bs := []) ho hc hd ReadsAll.nil ReadsAll.nil
      refine ⟨_, [a], rr, ?_, ?_⟩
      · intro b hb
        rw [List.mem_singleton.mp hb]
        exact ⟨_, _, rr, Nat.le_refl _⟩
      · have e1 : (PyData.dict []).depth = 0 + 1 := by decide +kernel
        have e2 : (PyData.dict []).shown = dictText [] := by simp only [PyData.shown, PyData.shownKv]
        rw [e1, e2]
        exact ReprK.dict ho hc hd hs0 (fun h => nomatch h) .nil
    | @dct1 a o x i hq =>
      cases r
      obtain ⟨hs0, ho, hc, e, es, n, t1, t2, hd, he, hk, hv⟩ := dict_reads1 I hq
      obtain ⟨_, as, rr, ea⟩ := dict_rd1 I hq
      subst ea
      refine ⟨_, [a], rr, ?_, ?_⟩
      · intro b hb
        rw [List.mem_singleton.mp hb]
        exact ⟨_, _, rr, Nat.le_refl _⟩
      · have hs2 : (PyData.int i).showable = true := by simpa [PyData.showable, PyData.showableKv] using hs
        have e1 : (PyData.dict [(.str x, .int i)]).depth = 0 + 1 := by simp [PyData.depth, PyData.depthKv]
        have e2 : (PyData.dict [(.str x, .int i)]).shown = dictText [reprText x ++ ": " ++ (PyData.int i).shown] := by simp only [PyData.shown, PyData.shownKv]
        have l1 : (reprText x ++ ": " ++ (PyData.int i).shown).length ≤ sizeLine := by
          rw [e2] at hz
          exact Nat.le_trans (dictText_mem_le (by simp)) hz
        have l2 : (reprText x).length ≤ sizeLine := by
          have q1 : (reprText x ++ ": " ++ (PyData.int i).shown).length = (reprText x ++ ": ").length + (PyData.int i).shown.length := Str.length_append ..
          have q2 : (reprText x ++ ": ").length = (reprText x).length + (": " : Str).length := Str.length_append ..
          omega
        rw [e1, e2]
        refine ReprK.dict ho hc hd hs0 (fun h => nomatch h) ?_
        rw [he]
        refine .cons ?_ ?_ .nil
        · rw [hk]
          exact .of_is (ReprIs.str x t1 l2) _ _ _
        · rw [hv]
          simp only [PyData.shown]
          exact .of_is (ReprIs.int t2 (by simpa [PyData.showable] using hs2)) _ _ _
theorem repr_of_dpNs (I : Inv X pins σ H s) : ∀ (ds : List PyData) (vs : List V) (us : List Value), DpNs X.K H vs ds → Vals vs us → PyData.showableAll ds = true → (∀ t ∈ PyData.shownAll ds, t.length ≤ sizeLine) →
    ∃ as bs, ReadsAll s.heap us ds as ∧ ReadAtMost s.heap (PyData.depthAll ds) bs ∧ ReprAllK X.prog X.w bs s.heap (PyData.depthAll ds) us (PyData.shownAll ds)
  | [], _, _, h, r, _, _ => by
    cases h; cases r
    exact ⟨_, [], ReadsAll.nil, (fun _ h => nomatch h), by simp only [PyData.shownAll]; exact .nil⟩
  | d :: ds, _, _, h, r, hs, hz => by
    cases h with
    | cons h1 h2 =>
      cases r with
      | cons r1 r2 =>
        have hs' : d.showable = true ∧ PyData.showableAll ds = true := by simpa [PyData.showableAll] using hs
        obtain ⟨a1, b1, q1, hb1, k1⟩ := repr_of_dpN I d _ _ h1 r1 hs'.1 (hz _ (by simp only [PyData.shownAll]; exact List.mem_cons_self ..))
        obtain ⟨a2, b2, q2, hb2, k2⟩ := repr_of_dpNs I ds _ _ h2 r2 hs'.2 (fun t ht => hz t (by simp only [PyData.shownAll]; exact List.mem_cons_of_mem _ ht))
        refine ⟨_, b1 ++ b2, ReadsAll.cons q1 q2, ?_, ?_⟩
        · simp only [PyData.depthAll]
          exact (hb1.mono (Nat.le_max_left _ _)).append (hb2.mono (Nat.le_max_right _ _))
        · simp only [PyData.depthAll, PyData.shownAll]
          exact .cons ((k1.more fun b hb => List.mem_append_left _ hb).level_le (Nat.le_max_left _ _)) (k2.more_le (fun b hb => List.mem_append_right _ hb) (Nat.le_max_right _ _))
end
/-- the slot that shows it -/
theorem shows_dpN (I : Inv X pins σ H s) {a : Addr} {d : PyData} (h : DpN X.K H (.ref a) d) (hs : d.showable = true) (hz : d.shown.length ≤ sizeLine) : ∃ T idr, ShowsBy X.prog X.w s.heap a d T idr := by
  cases h with
  | @lst _ xs ds hq ha =>
    obtain ⟨its, rv, ⟨o, n, ho, hc, _, hd⟩, _⟩ := I.list hq
    have hz' : (listText (PyData.shownAll ds)).length ≤ sizeLine := by simpa only [PyData.shown] using hz
    obtain ⟨as, bs, hr, hb, hk⟩ := repr_of_dpNs I ds _ its ha rv (by simpa [PyData.showable] using hs) (fun t ht => Nat.le_trans (listText_mem_le ht) hz')
    have hna : a ∉ bs := not_mem_of_deeper (.list ho hc hd hr) (by simp only [PyData.depth]; omega) hb
    refine ⟨"list", "list.__repr__", F.slot_list_repr.toG, F.slot_list_str, F.slot_list_format, fun s hk0 => ⟨o, hk0 _ _ ho, hc⟩, fun A E s Q hg hu hk0 hQ => ?_⟩
    simp only [PyData.depth] at hu
    simp only [PyData.shown] at hQ
    cases its with
    | nil =>
      cases hr
      simp only [PyData.shownAll, listText_nil] at hQ
      exact call_list_repr_empty ⟨o, hk0 _ _ ho, hc⟩ (hk0 _ _ ho) hd (hQ s.heap _ _ fun _ _ e => e)
    | cons x l =>
      exact call_list_reprK ho hc hd hna (by simpa using hk.length_eq) (fun i y e => hk.item i y (by simpa using e)) hg (fun b _ => Clear.nil b) hu hk0 hQ hz'
  | @tup _ xs ds hq ha =>
    obtain ⟨its, rv, ⟨o, ho, hc, n, hd⟩, _⟩ := I.tuple hq
    have hz' : (tupleText (PyData.shownAll ds)).length ≤ sizeLine := by simpa only [PyData.shown] using hz
    obtain ⟨as, bs, hr, hb, hk⟩ := repr_of_dpNs I ds _ its ha rv (by simpa [PyData.showable] using hs) (fun t ht => Nat.le_trans (tupleText_mem_le ht) hz')
    have hna : a ∉ bs := not_mem_of_deeper (.tuple ho hc hd hr) (by simp only [PyData.depth]; omega) hb
    refine ⟨"tuple", "tuple.__repr__", F.slot_tuple_repr, F.slot_tuple_str, F.slot_tuple_format, fun s hk0 => ⟨o, hk0 _ _ ho, hc⟩, fun A E s Q hg hu hk0 hQ => ?_⟩
    simp only [PyData.depth] at hu
    simp only [PyData.shown] at hQ
    exact call_tuple_reprK ho hc hd hna (by simpa using hk) hg (fun b _ => Clear.nil b) hu hk0 hQ hz'
  | @dct _ o hq =>
    obtain ⟨hs0, ho, hc, n, hd⟩ := dict_reads I hq
    have rr : Reads s.heap (.ref a) (.dict []) (a :: [] ++ []) := Reads.dict (kvs := []) (as := []) (bs := []) ho hc hd ReadsAll.nil ReadsAll.nil
    refine showsBy_of_reads rr hs (fun _ z => ?_) hz
    rw [List.append_nil] at z
    rw [← List.mem_singleton.mp z] at hs0
    simp at hs0
  | @dct1 _ o x i hq =>
    obtain ⟨hs0, as, rr, ea⟩ := dict_rd1 I hq
    subst ea
    refine showsBy_of_reads rr hs (fun _ z => ?_) hz
    rw [← List.mem_singleton.mp z] at hs0
    simp at hs0
end
def rReprN (K : PySem.W.Frag) : List V → Hp → VK → Prop := fun xs H Q => ∃ x d, xs = [x] ∧ DpN K H x d ∧ d.showable = true ∧ d.depth ≤ 50 ∧ d.shown.length ≤ sizeLine ∧ Q (.str d.shown) H
theorem call_reprN {X : Cx} (hgd : X.A.guards = some []) (hu : X.A.units + 64 < cLine) : CallR X (.builtin "repr") (rReprN X.K) := by
  intro pins s σ H xs us Q I r h
  obtain ⟨x, d, rfl, hd, h1, h3, h4, q⟩ := h
  obtain ⟨u, rfl, rx⟩ := vals1 r
  have fin : ∀ t : Nat, EP X pins σ Q (.str d.shown t) { s with toks := s.toks + 1 } := fun t => ⟨.str d.shown, H, I.tok _, ⟨t, rfl⟩, q⟩
  have main : ∀ a E, x = .ref a → u = Value.ref a → wpAny (model X.prog X.w) X.A (call (.builtin "repr") [.ref a]) (EP X pins σ Q) E s := by
    intro a E e1 e2
    subst e1
    obtain ⟨T, idr, S⟩ := shows_dpN I hd h1 h4
    exact call_repr_slot (by omega) (S.typeIs s (fun _ _ e => e)) S.slotRepr (S.call X.A.in1 E s _ hgd (by show X.A.units + 1 + d.depth < cLine; omega) (fun _ _ e => e) fun h' t tk kp => ⟨_, _, rfl, ⟨.str _, H, I.kept (t' := tk) kp, ⟨t, rfl⟩, q⟩⟩)
  cases hd with
  | non =>
    cases rx
    exact PySem.P.repr_of_none (fin _)
  | bl b =>
    cases rx
    exact PySem.P.repr_of_bool (fin _)
  | int i =>
    obtain ⟨t, rfl⟩ := rx
    exact PySem.P.repr_of_int (by simpa [PyData.showable] using h1) (fin _)
  | str y =>
    obtain ⟨t, rfl⟩ := rx
    exact PySem.P.repr_of_str (fin _) h4
  | lst hs ha =>
    obtain rfl : u = Value.ref _ := rx
    exact main _ _ rfl rfl
  | tup hs ha =>
    obtain rfl : u = Value.ref _ := rx
    exact main _ _ rfl rfl
  | dct hq =>
    obtain rfl : u = Value.ref _ := rx
    exact main _ _ rfl rfl
  | dct1 x i hq =>
    obtain rfl : u = Value.ref _ := rx
    exact main _ _ rfl rfl
/-- the dicts that are shown: {}, {'a': 1} -/
def dctPy (ks : List Key) (ds : List D) : Option PyData := match ks, ds with
  | [], [] => some (.dict [])
  | [.inr x], [.int i] => some (.dict [(.str x, .int i)])
  | _, _ => none
mutual
def toPyN : D → Option PyData
  | .non => some .none
  | .bl b => some (.bool b)
  | .int i => some (.int i)
  | .str s => some (.str s)
  | .tup ds => (toPyNs ds).map .tuple
  | .lst ds => (toPyNs ds).map .list
  | .wtp ds => (toPyNs ds).map .tuple
  | .dct ks ds => dctPy ks ds
  | _ => none
def toPyNs : List D → Option (List PyData)
  | [] => some []
  | d :: ds => (toPyN d).bind fun x => (toPyNs ds).map fun xs => x :: xs
end
theorem toPyN_dct {K : PySem.W.Frag} {F H : Hp} (e : FH F H) (ks : List Key) (ds : List D) (v : V) (p : PyData) (h : Den K F (.dct ks ds) v) (q : dctPy ks ds = some p) : DpN K H v p := by
  unfold dctPy at q
  split at q
  · cases q
    obtain ⟨a, o, vs, rfl, h3, h4, h5⟩ := h
    exact .dct (e.at_ _ _ h3 rfl)
  · rename_i x i
    cases q
    obtain ⟨a, o, vs, rfl, h3, h4, h5⟩ := h
    match vs, h5 with
    | [y], h5 =>
      obtain ⟨y', ys, e1, hy, e2⟩ := h5
      cases e1
      have hy' : y = .int i := hy
      subst hy'
      exact .dct1 x i (e.at_ _ _ h3 rfl)
    | [], h5 =>
      obtain ⟨y', ys, e1, _⟩ := h5
      cases e1
    | _ :: _ :: _, h5 =>
      obtain ⟨y', ys, e1, hy, e2⟩ := h5
      cases e1
      cases e2
  · cases q
mutual
theorem toPyN_dp {K : PySem.W.Frag} {F H : Hp} (e : FH F H) : ∀ (d : D) (v : V) (p : PyData), Den K F d v → toPyN d = some p → DpN K H v p
  | .non, v, p, h, q => by
    have h' : v = .non := h
    cases q
    rw [h']
    exact .non
  | .bl b, v, p, h, q => by
    have h' : v = .bl b := h
    cases q
    rw [h']
    exact .bl b
  | .int i, v, p, h, q => by
    have h' : v = .int i := h
    cases q
    rw [h']
    exact .int i
  | .str s, v, p, h, q => by
    have h' : v = .str s := h
    cases q
    rw [h']
    exact .str s
  | .tup ds, v, p, ⟨a, o, vs, h1, h2, _, h3⟩, q => by
    obtain ⟨ps, q1, q2⟩ := Option.map_eq_some_iff.mp q
    rw [h1, ← q2]
    exact .tup (.inl (.inr ⟨o, e.at_ _ _ h2 rfl⟩)) (toPyNs_dp e ds vs ps h3 q1)
  | .lst ds, v, p, ⟨a, vs, h1, h2, h3⟩, q => by
    obtain ⟨ps, q1, q2⟩ := Option.map_eq_some_iff.mp q
    rw [h1, ← q2]
    exact .lst (.inl (e.rd h2)) (toPyNs_dp e ds vs ps h3 q1)
  | .wtp ds, v, p, ⟨a, vs, h1, h2, h3⟩, q => by
    obtain ⟨ps, q1, q2⟩ := Option.map_eq_some_iff.mp q
    rw [h1, ← q2]
    exact .tup (.inl (.inl (e.at_ _ _ h2 rfl))) (toPyNs_dp e ds vs ps h3 q1)
  | .dct ks ds, v, p, h, q => toPyN_dct e ks ds v p h q
  | .dtt ks ds, v, p, h, q => nomatch (show (none : Option PyData) = some p from q)
  | .ins C ns ds, v, p, h, q => nomatch (show (none : Option PyData) = some p from q)
  | .exn C ns ds, v, p, h, q => nomatch (show (none : Option PyData) = some p from q)
  | .scr ns, v, p, h, q => nomatch (show (none : Option PyData) = some p from q)
theorem toPyNs_dp {K : PySem.W.Frag} {F H : Hp} (e : FH F H) : ∀ (ds : List D) (vs : List V) (ps : List PyData), Dens K F ds vs → toPyNs ds = some ps → DpNs K H vs ps
  | [], vs, ps, h, q => by
    have h' : vs = [] := h
    cases q
    rw [h']
    exact .nil
  | d :: ds, vs, ps, ⟨x, xs, h1, h2, h3⟩, q => by
    obtain ⟨p, q1, q2⟩ := Option.bind_eq_some_iff.mp q
    obtain ⟨ps', q3, q4⟩ := Option.map_eq_some_iff.mp q2
    rw [h1, ← q4]
    exact .cons (toPyN_dp e d x p h2 q1) (toPyNs_dp e ds xs ps' h3 q3)
end
def reprND : List D → Option D
  | [x] => (toPyN x).bind fun p => if p.showable = true ∧ p.depth ≤ 50 ∧ p.shown.length ≤ sizeLine then some (.str p.shown) else none
  | _ => none
theorem cd_reprN {K : PySem.W.Frag} : CallD K (rReprN K) reprND := by
  intro F H xs as z e hx hz Q k
  match xs, hz with
  | [x], hz =>
    obtain ⟨p, h1, hz⟩ := Option.bind_eq_some_iff.mp hz
    obtain ⟨a, rfl, h2⟩ := one_den hx
    by_cases c : p.showable = true ∧ p.depth ≤ 50 ∧ p.shown.length ≤ sizeLine
    · rw [if_pos c] at hz
      cases hz
      exact ⟨a, p, rfl, toPyN_dp e x a p h2 h1, c.1, c.2.1, c.2.2, gr_val (z := .str p.shown) e rfl k⟩
    · rw [if_neg c] at hz
      cases hz
end DD
namespace DD
open PySem PySem.Spec PyProof.Rows L2
end DD
set_option maxHeartbeats 400000
namespace DD
open PySem PySem.Spec PyProof.Rows L2 LamX
end DD
namespace DD
open PySem PySem.Spec PyProof.Rows L2 LamX
end DD
set_option maxHeartbeats 1000000
namespace DD
open PySem PySem.Spec PyProof.Rows L2
end DD
set_option maxHeartbeats 400000
namespace DD
open PySem PySem.Spec PyProof.Rows L2
end DD
namespace DD
open PySem PySem.Spec PyProof.Rows L2
end DD
namespace DD
open PySem PySem.Spec PyProof.Rows L2
end DD
set_option maxHeartbeats 200000
namespace DD
open PySem PySem.Spec PyProof.Rows L2
end DD
namespace DD
open PySem PySem.Spec PyProof.Rows L2
end DD
set_option maxHeartbeats 2000000
namespace DD
open PySem PySem.Spec PyProof.Rows L2
/-- C(e, ..) stands as a value -/
def tMkV (C : Addr) (sp : Sp) (ta : TA) : TE := fun σ H Q => ta σ H fun vs H1 => vs.length ≤ 1000 ∧ ∀ a, H1 a = none → sp (.ref a :: vs) (upd H1 a (exo a C none))
  (fun v H2 => v = .non ∧ ∃ (d : Addr) (fs : List (Str × V)), H2 a = some (exo a C (some d)) ∧ H2 d = some (exd d fs) ∧ H1 d = none ∧ Q (.ref a) (upd (upd (L2.del H2 a) d (.xd fs)) a (.ext (ExnOk (.ref C) a (some d))))) (fun _ _ _ => False)
section
variable {X : Cx} {pins : List (Addr × Obj)} {σ : L2.St} {H1 H2 : Hp} {C a d : Addr} {fs : List (Str × V)}
theorem mk_endV {hp hp2 h2 : Heap} {g1 g2 : Array GenState} {d1 d2 : Drawn} {t1 t2 : Nat} {os1 os2 : OsState} {Q : VK} (I1 : Inv X pins σ H1 ⟨hp, g1, d1, t1, os1⟩)
    (ha : hp.objs.size ≤ a) (k : ∀ b o, hp.get? b = some o → hp2.get? b = some o) (un : Un (frs X.stack) [] (upd H1 a (exo a C none)) H2 hp2 h2) (hok : HOk X.prog X.w H2 h2) (ho : os2 = os1) (hb : AllBare g2)
    (ea : H2 a = some (exo a C (some d))) (ed : H2 d = some (exd d fs)) (hd1 : H1 d = none) (q : Q (.ref a) (upd (upd (L2.del H2 a) d (.xd fs)) a (.ext (ExnOk (.ref C) a (some d))))) : EP X pins σ Q (.ref a) ⟨h2, g2, d2, t2, os2⟩ := by
  obtain ⟨t0, G, J, kG, ge, hoe, na⟩ := mk_end0 (d2 := d2) (t2 := t2) I1 ha k un hok ho hb ea ed hd1
  refine ⟨.ref a, _, J.laidN (t' := t2) (o := .ext (ExnOk (.ref C) a (some d))) kG ge na ⟨⟨_, _, hoe, rfl, rfl, rfl⟩, ⟨_, hoe⟩, fun _ _ ⟨o, v, q, r⟩ z => ⟨o, v, z o q, r⟩⟩, rfl, q⟩
end
section
variable {X : Cx} {e : Expr} {es : List Expr} {ta : TA} {p pos : Pos}
theorem pe_oexV {CX : CXT} {x : Str} {C fI : Addr} {k : Nat} {fd : FuncData} {ps : List Str} {sp : Sp} (T : OexG X.K C) (iC : PySem.W.findIn X.K (.ref C) "__init__" = some (some (.ref fI))) (tI : PySem.W.typeIn X.K (.ref fI) = some (.type "function"))
    (fn : FnOk X.prog X.w X.K X.mg X.base CX k fI fd ps sp) (hr : Room (k + 1) X.A) (hb : Binds X.K fd ps []) (pss : Passes CX X (fun _ _ _ => False)) (hg : Gl X x) (hm : X.mg x = some (.ref C)) (args : PA X (e :: es) ta)
    (hdb : (x == ("__debug__" : Str)) = false := by decide) (he : starEach (e :: es) X.env = (false, eval e X.env) :: starEach es X.env := by rfl) (hpl : (backTo pos (starEach es X.env)).any (·.1) = false := by rfl) :
    PE X (.Call (.Name x p) (e :: es) [] pos) (tMkV C sp ta) := by
  refine ⟨fun pins s σ H Q I h => ?_⟩
  obtain ⟨eb, nm, q, N, bs, bm, sn, sub, ab, col, dd, k0, k1, k2, k3, k5, hC, hbm⟩ := T.cls
  obtain ⟨ii, base⟩ := eb.facts
  refine wpAny_Call_Name_kw (ld_glob I hg hm ?_ hdb)
  refine PySem.W.callWith_K (h₀ := X.base) I.ok.mod.kin T.kC (thn (args.run pos pins s σ H _ I h) fun us s1 ⟨vs, H1, I1, r1, few, q1⟩ => ⟨I1.kIn, ?_⟩) he hpl
  show wpAny _ _ (call (.ref C) us) _ _ _
  obtain ⟨hp, g, dr, tk, os⟩ := s1
  generalize hz : hp.objs.size + 1 = z at *
  have le : hp.objs.size ≤ z := by omega
  have nZ : H1 z = none := I1.hok.fresh le
  have q2 := q1 z nZ
  have grow : ∀ b o, hp.get? b = some o → ((hp.push (PySem.W.kdv_tup us)).push (PySem.HandSPX.excO C hp.objs.size)).get? b = some o := fun b o w => Heap.get?_push_of_some _ (Heap.get?_push_of_some _ w)
  have oz : ((hp.push (PySem.W.kdv_tup us)).push (PySem.HandSPX.excO C hp.objs.size)).get? z = some (PySem.HandSPX.excO C hp.objs.size) := by
    rw [← hz]
    heap_get
  have J : Inv X pins σ (upd H1 z (exo z C none)) ⟨(hp.push (PySem.W.kdv_tup us)).push (PySem.HandSPX.excO C hp.objs.size), g, dr, tk, os⟩ :=
    I1.laid (t' := tk) (a := z) (o := exo z C none) (h' := (hp.push (PySem.W.kdv_tup us)).push (PySem.HandSPX.excO C hp.objs.size)) grow le (exo_ok oz)
  have r2 : Vals (V.ref z :: vs) (Value.ref z :: us) := .cons rfl r1
  have lens : (Value.ref z :: us).length = ps.length := by
    rw [← r2.length, fn.len _ _ _ _ q2]
  have short : us.length ≤ sizeLine := by
    rw [← Paired.length r1, sizeLine_eq]
    omega
  have bd := hb ⟨(hp.push (PySem.W.kdv_tup us)).push (PySem.HandSPX.excO C hp.objs.size), g, dr, tk, os⟩ (Value.ref z :: us) J.kIn (by rw [List.append_nil]; exact lens)
  rw [List.append_nil] at bd
  have run := fn.run _ X.stack _ _ ⟨Value.ref z :: us, []⟩ (Value.ref z :: us) _ _ (fun _ _ _ => False) (hr.make C us []) (J.env0.make C us []) bd r2 q2
  refine wpAny_call (PySem.HandSPX.call_own base (fun Y => refsB_has eb Y bm hbm) (I1.kIn _ _ hC) (PySem.W.looks_findIn I1.kIn iC) (fun self => PySem.W.bind_fn I1.kIn self tI) short ?_)
  rw [hz]
  refine codeAny_mono run fun r s' w => ?_
  cases r with
  | error er => exact pss pins σ _ _ er s' J w
  | ok flw =>
    cases flw with
    | ret v =>
      obtain ⟨v', H2, os2, bare2, un2, hok2, rv, ev, d, fs, ea, ed, hd1, q3⟩ := w
      subst ev
      obtain ⟨h2, g2, d2, t2, os'⟩ := s'
      exact ⟨rv, mk_endV I1 le grow un2 hok2 os2 bare2 ea ed hd1 q3⟩
    | next => exact False.elim w
    | brk => exact False.elim w
    | cont => exact False.elim w
end
section
variable {X : Cx} {W : WX} {p p2 : Pos} {C f : Str}
def mExn1 (C f : Str) (m : MA) : MD := fun env => (m env).bind fun ds e => match ds with
  | [d] => .ok (.exn C [f] [d]) e
  | _ => .fail
theorem pd_exn1 {e : Expr} {ta : TA} {me : MD} (G : ExF X.prog X.w X.K X.mg X.base C f) (gC : X.mg C = some (.ref (cadr X.K C))) (hr : Roam 2 X.A) (tk : Takes X W) (hg : Gl X C) (ha : PDA X W [e] ta (mCons me mNil))
    (hdb : (C == ("__debug__" : Str)) = false := by decide) (he : starEach [e] X.env = (false, eval e X.env) :: starEach [] X.env := by rfl) (hpl : (backTo p2 (starEach [] X.env)).any (·.1) = false := by rfl) :
    PD X W (.Call (.Name C p) [e] [] p2) (tMkV (cadr X.K C) (spX (cadr X.K C) f) ta) (mExn1 C f (mCons me mNil)) := by
  obtain ⟨fI, fd, ps, i1, i2, F1, hb⟩ := G.init
  refine ⟨pe_oexV G.oex i1 i2 F1 hr.room hb (passes_call tk fun _ _ _ _ z => z.elim) hg gC ha.pa hdb he hpl, fun F H σ env fp Q e0 R h => ?_⟩
  unfold mExn1 at h
  refine ha.sn.go e0 R h fun F1 H1 fp1 env1 ds vs P1 R1 d1 h1 => ?_
  match ds, h1 with
  | [], h1 => exact h1.elim
  | _ :: _ :: _, h1 => exact h1.elim
  | [d], h1 =>
    obtain ⟨y, ys, rfl, dy, rfl⟩ := d1
    refine ⟨Nat.le_of_ble_eq_true rfl, fun a na => ⟨a, y, rfl, upd_same, fun dx hdx ne => ⟨rfl, dx, [(f, y)], upd_same, ?_, ?_, ?_⟩⟩⟩
    · rw [upd_ne ne, upd_same]
    · rw [upd_ne ne] at hdx
      exact hdx
    · rw [upd_ne ne] at hdx
      rw [xd_same na hdx ne]
      have g := Gr.new (o := .xd [(f, y)]) R1.ex hdx
      have R2 := R1.grow g
      have na2 : upd H1 dx (.xd [(f, y)]) a = none := by rw [upd_ne (Ne.symm ne)]; exact na
      have g2 := Gr.new (o := .ext (ExnOk (.ref (cadr X.K C)) a (some dx))) R2.ex na2
      refine h1 _ _ fp1 _ (g.po.trans g2.po) (R2.grow g2) ⟨a, some dx, rfl, upd_same, .inr ⟨dx, [y], rfl, ?_, rfl, ⟨y, [], rfl, Den.mono g2.f d y (Den.mono g.f d y dy), rfl⟩⟩⟩
      rw [upd_ne ne, upd_same]
      rfl
end
end DD
set_option maxHeartbeats 4000000
namespace PySem.HandSPX
open PySem PySem.Spec PySem.Calls PyProof.Rows L2
section
variable {prog : Program} {w : World} {A : Around} {E : Value → Shared → Prop} {R : Result → Shared → Prop} {h : Heap} {g : Array GenState} {d : Drawn} {t : Nat} {os : OsState}
variable {nm q : Str} {C N : Addr} {bs bm bmB : List Value} {hdct : Bool} {sn : List Str} {sub : List Value} {ab : Bool} {col : Option Bool} {dd : Option Addr} {k0 k1 k2 k3 k5 : Option Value} {B newId initId : String} {kw : List (Str × Value)}
theorem new_ownK (F : ExcBaseFacts B newId initId bmB) (hT : ∀ X : String, bm.contains (.type X) = bmB.contains (.type X))
    (hC : h.get? C = some (excClassObj nm q C N bs bm hdct sn sub ab col dd k0 k1 k2 k3 k5 newId))
    (hq : R (.ok (.ret (.ref (h.objs.size + 1)))) ⟨(h.push { cls := .type "tuple", data := .seq #[] }).push
      { cls := .ref C, data := .fields #[.ref h.objs.size, .none, .none, .none, .bool false, .none] }, g, d, t, os⟩) :
    codeAny (model prog w) A (.builtin newId ⟨[.ref C], kw⟩) R ⟨h, g, d, t, os⟩ := by
  have hends := F.ends
  have hrest : ([] : List Value).length ≤ sizeLine := Nat.zero_le _
  have hcB : (Value.ref C :: bm).contains (.type B) = true := by rw [List.contains_cons, hT, F.hasB, Bool.or_true]
  have hcA : (Value.ref C :: bm).contains (.type "AttributeError") = false := by rw [List.contains_cons, hT, F.noAttr]; rfl
  have hcN : (Value.ref C :: bm).contains (.type "NameError") = false := by rw [List.contains_cons, hT, F.noName]; rfl
  refine codeAny_builtinAt F.entry ?_
  unfold Builtin.«BaseException.__new__»
  refine wpAt_bind ?_
  show wpAt _ _ _ (stack >>= _) _ _ _
  refine wpAt_bind (wpAt_stack fun p below => wpAt_of_wpAny ?_)
  wp_walk
  refine wpAt_of_wpAny ?_
  rw [F.owner]
  repeat (first | with_reducible refine wpAny_madeHere_exc F.canon hC ?_ | with_reducible refine wpAny_loadPart_at hC ?_ | (with_reducible refine wpAny_isSubtype_exc hC ?_; first | rw [hcB] | rw [hcA] | rw [hcN]) | wp_step)
  show R _ _
  rw [Heap.size_push]
  exact hq
theorem check_new_ownK (F : ExcBaseFacts B newId initId bmB) (hT : ∀ X : String, bm.contains (.type X) = bmB.contains (.type X)) {x : Str} {v : Value} {Q : Unit → Shared → Prop}
    (hC : h.get? C = some (excClassObj nm q C N bs bm hdct sn sub ab col dd k0 k1 k2 k3 k5 newId)) (hq : Q () ⟨h, g, d, t, os⟩) : wpAny (model prog w) A (checkBuiltinCall newId ⟨[.ref C], [(x, v)]⟩) Q E ⟨h, g, d, t, os⟩ := by
  have hcont : (Value.ref C :: bm).contains (.type B) = true := by rw [List.contains_cons, hT, F.hasB, Bool.or_true]
  have hstar := F.noStar
  simp only [checkBuiltinCall, F.newKind, F.newSplit, F.newRow]
  repeat (first | refine wpAny_loadPart_at hC ?_ | (refine wpAny_isSubtype_exc hC ?_; rw [hcont]) | refine wpAny_staticBase_exc hC ?_ | refine wpAny_madeBy_exc hC ?_ | simp only [bne_self_eq_false, Bool.false_eq_true, if_false] | wp_step)
  exact hq
theorem type_call_ownK (F : ExcBaseFacts B newId initId bmB) (hT : ∀ X : String, bm.contains (.type X) = bmB.contains (.type X)) {x : Str} {v : Value} {fI : Addr} {Q : Fin → Shared → Prop}
    (hC : h.get? C = some (excClassObj nm q C N bs bm hdct sn sub ab col dd k0 k1 k2 k3 k5 newId))
    (hi : W.Looks (model prog w) h (typeLookup (.ref C) "__init__") (some (.ref fI))) (hb : ∀ self, W.Looks (model prog w) h (bindSpecial (.ref fI) self) (.ref fI, [self]))
    (hq : codeAny (model prog w) A (.call (.ref fI) ⟨[.ref (h.objs.size + 1)], [(x, v)]⟩)
      (fun r s' => match r with | .ok (.ret v) => v = .none ∧ Q (.done (.ret (.ref (h.objs.size + 1)))) s' | .ok _ => False | .error e => E e s')
      ⟨(h.push (W.kdv_tup [])).push (excO C h.objs.size), g, d, t, os⟩) :
    wpAny (model prog w) A (Builtin.«type.__call__» ⟨[.ref C], [(x, v)]⟩) Q E ⟨h, g, d, t, os⟩ := by
  repeat (first | with_reducible refine wpAny_loadPart_at hC ?_ | with_reducible refine wpAny_madeBy_exc hC ?_ | wp_step)
  refine codeAny_call_builtin_code (Code.quiet_builtin _ F.quiet) (check_new_ownK F hT hC ?_)
  refine new_ownK F hT hC ?_
  show wpAny _ _ _ _ _ _
  have k : ∀ b o, h.get? b = some o → ((h.push (W.kdv_tup [])).push (excO C h.objs.size)).get? b = some o := fun b o e => Heap.get?_push_of_some _ (Heap.get?_push_of_some _ e)
  have hC₁ := k _ _ hC
  have hget : ((h.push (W.kdv_tup [])).push (excO C h.objs.size)).get? (h.objs.size + 1) = some (excO C h.objs.size) := by heap_get
  have hcC : (Value.ref C :: bm).contains (.ref C) = true := by simp
  have i1 := hi.keeps k
  have b1 := (hb (.ref (h.objs.size + 1))).keeps k
  unfold isInstance
  repeat (first | with_reducible refine wpAny_loadPart_at hget ?_ | (with_reducible refine wpAny_isSubtype_exc hC₁ ?_; rw [hcC]) | wp_step)
  show wpAny _ _ (typeLookup (.ref C) _) _ _ _
  refine i1.at ?_
  refine wpAny_holding (wpAny_bind (b1.at ?_))
  refine wpAny_bind (wpAny_call (codeAny_mono hq fun r s' z => ?_))
  rcases r with e | (v | _ | _ | _) <;> first | exact z | exact z.elim | skip
  obtain ⟨rfl, z⟩ := z
  first
    | exact wpAny_pure (wpAny_pure z)
    | (wp_walk; exact z)
theorem call_ownK (F : ExcBaseFacts B newId initId bmB) (hT : ∀ X : String, bm.contains (.type X) = bmB.contains (.type X)) {x : Str} {v : Value} {fI : Addr}
    (hC : h.get? C = some (excClassObj nm q C N bs bm hdct sn sub ab col dd k0 k1 k2 k3 k5 newId))
    (hi : W.Looks (model prog w) h (typeLookup (.ref C) "__init__") (some (.ref fI))) (hb : ∀ self, W.Looks (model prog w) h (bindSpecial (.ref fI) self) (.ref fI, [self]))
    (hq : codeAny (model prog w) (A.under (.builtin "type.__call__" ⟨[.ref C], [(x, v)]⟩)) (.call (.ref fI) ⟨[.ref (h.objs.size + 1)], [(x, v)]⟩) (W.InitBack (h.objs.size + 1) R)
      ⟨(h.push (W.kdv_tup [])).push (excO C h.objs.size), g, d, t, os⟩) :
    codeAny (model prog w) A (.call (.ref C) ⟨[], [(x, v)]⟩) R ⟨h, g, d, t, os⟩ := by
  have f1 := tc_lookup
  have f2 := tc_bind (.ref C)
  have hTy : (⟨h, g, d, t, os⟩ : Shared).TypeIs (.ref C) "type" := ⟨_, hC, rfl⟩
  refine codeAny_of_tree ?_
  show wpAny _ _ (callAny (.ref C) _) _ _ _
  repeat (any_goals (first | assumption | with_reducible refine wpAny_loadPart_at hC ?_ | wp_step))
  refine ⟨rfl, ?_⟩
  refine codeAny_call_builtin_at (Code.quiet_builtin _ (by decide +kernel)) entry_typeCall (wpAny_check_type_call_sub hC (type_call_ownK F hT hC hi hb ?_))
  refine codeAny_mono hq fun r s' z => ?_
  rcases r with e | (v | _ | _ | _) <;> exact z
end
end PySem.HandSPX
namespace DD
open PySem PySem.Spec PyProof.Rows L2
/-- C(f = e) stands as a value -/
def tMkVK (C : Addr) (f : Str) (tk : TA) : TE := fun σ H Q => tk σ H fun zs H1 => ∃ y, zs = [y] ∧ ∀ a, H1 a = none → spX C f [.ref a, y] (upd H1 a (exo a C none))
  (fun v H2 => v = .non ∧ ∃ (d : Addr) (fs : List (Str × V)), H2 a = some (exo a C (some d)) ∧ H2 d = some (exd d fs) ∧ H1 d = none ∧ Q (.ref a) (upd (upd (L2.del H2 a) d (.xd fs)) a (.ext (ExnOk (.ref C) a (some d))))) (fun _ _ _ => False)
structure ExFK (P : Program) (w : World) (K : PySem.W.Frag) (mg : Str → Option Value) (base : Heap) (C f : Str) : Prop where
  oex : OexG K (cadr K C)
  init : ∃ fI fd ps g gV, PySem.W.findIn K (.ref (cadr K C)) "__init__" = some (some (.ref fI)) ∧ PySem.W.typeIn K (.ref fI) = some (.type "function") ∧ FnOk P w K mg base (L2.CX P w) 1 fI fd ps (spX (cadr K C) f) ∧ KBn K fd ps 1 [f] g gV ∧ ∀ a y, gV [.ref a] [y] = [.ref a, y]
section
variable {X : Cx} {W : WX} {kws : List Keyword} {tk : TA} {p pos : Pos} {C f : Str}
theorem pe_oexVK (G : ExFK X.prog X.w X.K X.mg X.base C f) (hm : X.mg C = some (.ref (cadr X.K C))) (hr : Roam 2 X.A) (tk' : Takes X W) (hg : Gl X C) (hkw : PK X kws tk)
    (hall : (backToKw pos (keywordEach kws X.env)).all (·.1.isSome) = true := by rfl) (hks : (backToKw pos (keywordEach kws X.env)).filterMap (·.1) = [f] := by rfl) (hdb : (C == ("__debug__" : Str)) = false := by decide)
    (hpl : ((backTo pos (starEach [] X.env)).any (·.1) || (backToKw pos (keywordEach kws X.env)).any (·.1.isNone)) = false := by rfl) :
    PE X (.Call (.Name C p) [] kws pos) (tMkVK (cadr X.K C) f tk) := by
  refine ⟨fun pins s σ H Q I h => ?_⟩
  obtain ⟨fI, fd, ps, gB, gV, iC, tI, fn, kb, gVe⟩ := G.init
  have T := G.oex
  obtain ⟨eb, nm, q, N, bs, bm, sn, sub, ab, col, dd, k0, k1, k2, k3, k5, hC, hbm⟩ := T.cls
  obtain ⟨ii, base⟩ := eb.facts
  refine wpAny_Call_Name_kw (ld_glob I hg hm ?_ hdb)
  refine PySem.W.callWith_KW0 (h₀ := X.base) I.ok.mod.kin T.kC hall ?_ hpl
  refine thn (hkw.run pos pins s σ H _ I h) fun ws s1 ⟨zs, H1, I1, rz, y, ez, q1⟩ => ⟨I1.kIn, ?_⟩
  rw [hks]
  subst ez
  obtain ⟨v, rfl⟩ : ∃ v, ws = [v] := by
    have hl := Paired.length rz
    match ws, hl with
    | [v], _ => exact ⟨v, rfl⟩
    | [], h => cases h
    | _ :: _ :: _, h => cases h
  have ry : RelV y v := by
    cases rz with
    | cons ry _ => exact ry
  obtain ⟨hp, g, dr, tk0, os⟩ := s1
  generalize hz : hp.objs.size + 1 = z at *
  have le : hp.objs.size ≤ z := by omega
  have nZ : H1 z = none := I1.hok.fresh le
  have q2 := q1 z nZ
  have grow : ∀ b o, hp.get? b = some o → ((hp.push (PySem.W.kdv_tup [])).push (PySem.HandSPX.excO (cadr X.K C) hp.objs.size)).get? b = some o := fun b o w => Heap.get?_push_of_some _ (Heap.get?_push_of_some _ w)
  have oz : ((hp.push (PySem.W.kdv_tup [])).push (PySem.HandSPX.excO (cadr X.K C) hp.objs.size)).get? z = some (PySem.HandSPX.excO (cadr X.K C) hp.objs.size) := by
    rw [← hz]
    heap_get
  have J : Inv X pins σ (upd H1 z (exo z (cadr X.K C) none)) ⟨(hp.push (PySem.W.kdv_tup [])).push (PySem.HandSPX.excO (cadr X.K C) hp.objs.size), g, dr, tk0, os⟩ :=
    I1.laid (t' := tk0) (a := z) (o := exo z (cadr X.K C) none) (h' := (hp.push (PySem.W.kdv_tup [])).push (PySem.HandSPX.excO (cadr X.K C) hp.objs.size)) grow le (exo_ok oz)
  have r2 : Vals (gV [.ref z] [y]) (gB [.ref z] [v]) := kb.rel (.cons rfl .nil) (.cons ry .nil)
  rw [gVe] at r2
  have bd := kb.to ⟨(hp.push (PySem.W.kdv_tup [])).push (PySem.HandSPX.excO (cadr X.K C) hp.objs.size), g, dr, tk0, os⟩ [.ref z] [v] J.kIn rfl rfl
  have run := fn.run _ X.stack _ _ ⟨[Value.ref z], [(f, v)]⟩ (gB [.ref z] [v]) _ _ (fun _ _ _ => False) (hr.room.make (cadr X.K C) [] [(f, v)]) (J.env0.make (cadr X.K C) [] [(f, v)]) bd r2 q2
  show wpAny _ _ (call (.ref (cadr X.K C)) [] [(f, v)]) _ _ _
  refine wpAny_call (PySem.HandSPX.call_ownK base (fun Y => refsB_has eb Y bm hbm) (I1.kIn _ _ hC) (PySem.W.looks_findIn I1.kIn iC) (fun self => PySem.W.bind_fn I1.kIn self tI) ?_)
  rw [hz]
  have pss : Passes (L2.CX X.prog X.w) X (fun _ _ _ => False) := passes_call tk' fun _ _ _ _ z => z.elim
  refine codeAny_mono run fun r s' w => ?_
  cases r with
  | error er => exact pss pins σ _ _ er s' J w
  | ok flw =>
    cases flw with
    | ret v =>
      obtain ⟨v', H2, os2, bare2, un2, hok2, rv, ev, d, fs, ea, ed, hd1, q3⟩ := w
      subst ev
      obtain ⟨h2, g2, d2, t2, os'⟩ := s'
      exact ⟨rv, mk_endV I1 le grow un2 hok2 os2 bare2 ea ed hd1 q3⟩
    | next => exact False.elim w
    | brk => exact False.elim w
    | cont => exact False.elim w
theorem pd_exn1K {mk : MA} (G : ExFK X.prog X.w X.K X.mg X.base C f) (gC : X.mg C = some (.ref (cadr X.K C))) (hr : Roam 2 X.A) (tk' : Takes X W) (hg : Gl X C) (hkw : PDK X W kws tk mk)
    (hall : (backToKw pos (keywordEach kws X.env)).all (·.1.isSome) = true := by rfl) (hks : (backToKw pos (keywordEach kws X.env)).filterMap (·.1) = [f] := by rfl) (hdb : (C == ("__debug__" : Str)) = false := by decide)
    (hpl : ((backTo pos (starEach [] X.env)).any (·.1) || (backToKw pos (keywordEach kws X.env)).any (·.1.isNone)) = false := by rfl) :
    PD X W (.Call (.Name C p) [] kws pos) (tMkVK (cadr X.K C) f tk) (mExn1 C f mk) := by
  refine ⟨pe_oexVK G gC hr tk' hg hkw.pk hall hks hdb hpl, fun F H σ env fp Q e0 R h => ?_⟩
  unfold mExn1 at h
  refine hkw.sn.go e0 R h fun F1 H1 fp1 env1 ds vs P1 R1 d1 h1 => ?_
  match ds, h1 with
  | [], h1 => exact h1.elim
  | _ :: _ :: _, h1 => exact h1.elim
  | [d], h1 =>
    obtain ⟨y, ys, rfl, dy, rfl⟩ := d1
    refine ⟨y, rfl, fun a na => ⟨a, y, rfl, upd_same, fun dx hdx ne => ⟨rfl, dx, [(f, y)], upd_same, ?_, ?_, ?_⟩⟩⟩
    · rw [upd_ne ne, upd_same]
    · rw [upd_ne ne] at hdx
      exact hdx
    · rw [upd_ne ne] at hdx
      rw [xd_same na hdx ne]
      have g := Gr.new (o := .xd [(f, y)]) R1.ex hdx
      have R2 := R1.grow g
      have na2 : upd H1 dx (.xd [(f, y)]) a = none := by rw [upd_ne (Ne.symm ne)]; exact na
      have g2 := Gr.new (o := .ext (ExnOk (.ref (cadr X.K C)) a (some dx))) R2.ex na2
      refine h1 _ _ fp1 _ (g.po.trans g2.po) (R2.grow g2) ⟨a, some dx, rfl, upd_same, .inr ⟨dx, [y], rfl, ?_, rfl, ⟨y, [], rfl, Den.mono g2.f d y (Den.mono g.f d y dy), rfl⟩⟩⟩
      rw [upd_ne ne, upd_same]
      rfl
end
end DD
set_option maxHeartbeats 2000000
namespace DD
open PySem PySem.Spec PyProof.Rows L2
def tMk0 (C : Addr) : TE := fun _ H Q => ∀ a, H a = none → Q (.ref a) (upd H a (.ext (ExnOk (.ref C) a none)))
section
variable {X : Cx} {W : WX} {p pos : Pos} {C : Str} {b : EB}
theorem pe_exc0V {c : Addr} {bmB : List Value} {B newId initId : String} (F : ExcBaseFacts B newId initId bmB) (q : PySem.W.excIn X.K c bmB newId = true) (gC : X.mg C = some (.ref c)) (kC : PySem.W.keepIn X.K (.ref c) = true) (hg : Gl X C) (hdb : (C == ("__debug__" : Str)) = false := by decide) :
    PE X (.Call (.Name C p) [] [] pos) (tMk0 c) := by
  refine ⟨fun pins s σ H Q I h => ?_⟩
  refine wpAny_Call_Name_kw (ld_glob I hg gC (PySem.W.callWith_K0 I.kIn kC ?_) hdb)
  obtain ⟨bm, N, nm, qn, bs, hdct, sn, sub, ab, col, dd, k0, k1, k2, k3, k5, mN, hC, hN, hni, T⟩ := exc_obj I.kIn q
  cases s
  refine wpAny_call_exc_subT F T hC hN hni (fun h' a hm => ?_) (Nat.zero_le _)
  have hn : H a = none := I.hok.gone hm.new
  obtain ⟨t, ht, _, _⟩ := hm.there
  exact ⟨.ref a, upd H a (.ext (ExnOk (.ref c) a none)), I.laidN hm.keeps hm.new hn ⟨⟨_, _, ht, rfl, rfl, rfl⟩, ⟨_, ht⟩, fun _ _ ⟨o, v, q, r⟩ z => ⟨o, v, z o q, r⟩⟩, rfl, h a hn⟩
def mExn0 (C : Str) : MD := fun env => .ok (.exn C [] []) env
theorem pd_exn0 (E : ExcK X.K C b) (gC : X.mg C = some (.ref (cadr X.K C))) (hg : Gl X C) (hdb : (C == ("__debug__" : Str)) = false := by decide) :
    PD X W (.Call (.Name C p) [] [] pos) (tMk0 (cadr X.K C)) (mExn0 C) := by
  obtain ⟨I, F⟩ := b.facts
  refine ⟨pe_exc0V F E.q gC E.k hg hdb, fun F H σ env fp Q e0 R h => fun a na => ?_⟩
  have g := Gr.new (o := .ext (ExnOk (.ref (cadr X.K C)) a none)) R.ex na
  exact h _ _ fp _ g.po (R.grow g) ⟨a, none, rfl, upd_same, .inl ⟨rfl, rfl, rfl⟩⟩
end
/-- C's own __init__ with a keyword -/
theorem exfk_ok {P : Program} {w : World} {K : PySem.W.Frag} {mg : Str → Option Value} {base : Heap} {C f x qual p0 : Str} {params : Arguments} {scope : Scope} {fd : FuncData} {N : List Str} {q0 q1 q2 q3 : Pos} (T : OexF K C f)
    (F : FunD K x qual params [.Assign [.Attribute (.Name p0 q0) f q1] (.Name f q2) q3] scope [] [] (maL C "__init__" K) fd) (S : FnScope N [p0, f] scope)
    (hk : ∀ (kV doc pm : Value) (an : Option Addr) (cdv ct : Value) (us ws : List Value), us.length = 1 → ws.length = [f].length → bindArgs (PySem.W.fnOf x qual params [.Assign [.Attribute (.Name p0 q0) f q1] (.Name f q2) q3] scope .none kV doc pm an cdv ct) ⟨us, [f].zip ws⟩ = pure ([p0, f].zip (permL [0, 1] (us ++ ws))))
    (h0 : N[0]? = some p0) (h1 : N[1]? = some f) (v0 : Vis scope p0) (v1 : Vis scope f) (d0 : (p0 == ("__debug__" : Str)) = false) (d1 : (f == ("__debug__" : Str)) = false) (c0 : (p0 == ("__classdict__" : Str)) = false) (c1 : (f == ("__classdict__" : Str)) = false)
    (hs : ∀ (env : PySem.Env) , swapsWith (.Name f q2) (some (.Attribute (.Name p0 q0) f q1)) q3.line env = pure false) : ExFK P w K mg base C f :=
  ⟨T.oex, _, fd, [p0, f], _, _, T.i, T.t, init1_ok F S T.oex T.no h0 h1 v0 v1 d0 d1 c0 c1 hs, kbn_of F 1 [f] [0, 1] hk, fun a y => rfl⟩
end DD
set_option maxHeartbeats 4000000
namespace Law_k01
open PySem PySem.Spec PyProof.Rows L2 DD
abbrev N_l_jar : List Str := ["_law_cells", "_law_turn", "_law_cell", "_law_mixed", "_law_each"]
abbrev N_l_given_errors : List Str := ["_law_thing", "_law_found"]
abbrev N_l_index_errors : List Str := ["_law_thing", "_law_found"]
abbrev N_l_dip : List Str := ["_law_jar_here", "_law_top", "_law_digit"]
abbrev N_l_one_of : List Str := ["_law_jar_here", "_law_some"]
abbrev N_l_sorts : List Str := ["_law_e", "_law_found", "_law_above", "_law_k"]
abbrev N_l_right : List Str := ["_law_jar_here", "_law_thing", "_law_at", "_law_both", "_law_e"]
abbrev N_law : List Str := ["_law_cells", "_law_told", "_law_bare", "_law_e", "_law_turn"]
abbrev N_InvalidText_init : List Str := ["self", "given"]
abbrev N_InvalidName_init : List Str := ["self", "given"]
abbrev N_InvalidView_init : List Str := ["self", "given"]
abbrev N_InvalidKind_init : List Str := ["self", "given"]
abbrev N_InvalidWish_init : List Str := ["self", "given"]
abbrev N_InvalidIndex_init : List Str := ["self", "given"]
abbrev N_InvalidNumber_init : List Str := ["self", "given"]
abbrev N_InvalidLine_init : List Str := ["self", "given"]
abbrev N_NotASetting_init : List Str := ["self", "given"]
abbrev N_NotARun_init : List Str := ["self", "given"]
abbrev N_NotARule_init : List Str := ["self", "given"]
abbrev N_InvalidHouses_init : List Str := ["self", "index"]
abbrev N_InvalidFails_init : List Str := ["self", "index"]
abbrev N_InvalidReaders_init : List Str := ["self", "index"]
abbrev N_InvalidPromises_init : List Str := ["self", "index"]
abbrev N_InvalidEvents_init : List Str := ["self", "index"]
abbrev N_InvalidOffers_init : List Str := ["self", "index"]
abbrev N_InvalidDeeds_init : List Str := ["self", "index"]
abbrev N_UnknownName_init : List Str := ["self", "given"]
abbrev N_NotReady_init : List Str := ["self", "given"]
abbrev N_Broken_init : List Str := ["self", "index"]
abbrev N_InUse_init : List Str := ["self", "index"]
end Law_k01
set_option maxHeartbeats 0
namespace Law_k01
open PySem PySem.Spec PyProof.Rows L2 DD
theorem ob_eq (s : PySem.W.SharedT) : ob s = hk.obs s.abs := obsXS_eq (HandSHeadRun.getT_eq s)
end Law_k01
set_option maxHeartbeats 200000
namespace DD
open PySem PySem.Spec PyProof.Rows L2
theorem walk_ofW {l : PySem.W.OpenLaw} {n k : Nat} {q : Program} {loose : List Str} {XP : (Str → Option Value) → Heap → Prop} {YP : World → Heap → Prop} {d : DefRec} {x : Str}
    (hn : l.most = some n) (hn2 : n ≤ sizeLine) (hdf : d.params.defaults = []) (hr : Room k callerA)
    (F : ∀ (w : World) (mg : Str → Option Value) (fa : Addr) (h : Heap), YP w h → h.Ns mainGlobals mg → mg d.name = some (.ref fa) →
      ∃ (K : PySem.W.Frag) (fd : FuncData) (sp : Sp), K.In h ∧ (∀ (s : Shared) (u : Value), BindsTo s fd ⟨[u], []⟩ [(x, u)]) ∧
        (∀ (H : Hp) (a : Addr) (ns : List Int), ns.length ≤ n → Only H → SqL K H a (ns.map V.int) → sp [.ref a] H (fun v _ => v = .bl true) fun _ _ _ => False) ∧
        ∀ base : Heap, K.In base → base.Ns mainGlobals mg → FnG l.prog w K mg base (L2.CX l.prog w) k fa fd [x] sp) :
    PySem.W.WalkO q loose XP YP l.row.toRowW d [] (fun f vs => PySem.call f vs) := by
  refine Att.attach_call hn hdf ?_
  intro w s₀ s₁ mg mb fa o pm cd doc a vs ns G Y ho hd hcd hmg hobj hints hlen hg
  obtain ⟨K, fd, sp, KX, hb, hsp, hF⟩ := F w mg fa _ Y G.T.g hmg
  refine law_callG KX G.T.g G.T.b G.T.builtins G.T.nolimit hg hobj hints (Nat.le_trans hlen hn2) hr hF hb (fun H => hsp H a ns hlen) fun H e s' z => ?_
  obtain ⟨_, _, _, _, _, _, _, _, _, _, _, _, h⟩ := z
  exact h
theorem only_fh {H : Hp} (o : Only H) : FH H H := ⟨⟨fun _ _ h _ => h⟩, fun a ps h => by
  rcases o a with q | ⟨_, _, q⟩ <;> (rw [q] at h; cases h)⟩
theorem law_end {K : PySem.W.Frag} {f : List D → RP} {H : Hp} {a : Addr} {ns : List Int} (o : Only H) (hk : lamK K = false) (h : SqL K H a (ns.map V.int)) (hm : f [.scr ns] = .ok (.bl true)) : spP K 1 f [.ref a] H (fun v _ => v = .bl true) fun _ _ _ => False := by
  refine ⟨rfl, H, [.scr ns], ⟨only_fh o, MkF.no hk⟩, dens_cons ⟨a, rfl, h⟩ dens_nil, ?_⟩
  rw [hm]
  exact fun F' H' v _ d => d
end DD
namespace DD
open PySem PySem.Spec PyProof.Rows L2
section
variable {α β : Type} {env e1 e2 : DEnv} {i j : Nat} {a b c : MD} {p q : MB} {x y z : D} {xs ys ds es : List D} {o o' : O} {os : List O} {m n : MS} {as : MA} {mo mo' : MO} {f : D → D → Option D} {g : List D → Option D} {k l : Int} {s t : Str}
@[simp] theorem e_var : mVar i env = match env[i]? with
  | some (some (.d x)) => .ok x env
  | _ => .fail := id rfl
@[simp] theorem e_c : mC x env = .ok x env := id rfl
@[simp] theorem e_ofO_some {v : α} : ofO (some v) env = .ok v env := id rfl
@[simp] theorem e_ofO_none : (ofO none env : Rs α) = .fail := id rfl
@[simp] theorem e_op : mOp f a b env = (a env).bind fun x e1 => (b e1).bind fun y e2 => ofO (f x y) e2 := id rfl
@[simp] theorem e_un {f : D → Option D} : mUn f a env = (a env).bind fun x e1 => ofO (f x) e1 := id rfl
def asB {α : Type} (k : Bool → DEnv → Rs α) : D → DEnv → Rs α := fun x e => match x with
  | .bl b => k b e
  | _ => .fail
@[simp] theorem e_asB {k : Bool → DEnv → Rs α} {w : Bool} : asB k (.bl w) env = k w env := id rfl
@[simp] theorem e_test : mTest a env = (a env).bind (asB fun b e => .ok b e) := by
  unfold mTest asB
  cases a env with
  | ok x e => cases x <;> rfl
  | exc x e => rfl
  | fail => rfl
@[simp] theorem e_and : mAnd p q env = (p env).bind fun x e1 => if x = true then q e1 else .ok false e1 := id rfl
@[simp] theorem e_or : mOr p q env = (p env).bind fun x e1 => if x = true then .ok true e1 else q e1 := id rfl
@[simp] theorem e_not : mNot p env = (p env).bind fun x e1 => .ok (!x) e1 := id rfl
@[simp] theorem e_if {u v : DEnv → Rs α} : mIf p u v env = (p env).bind fun x e1 => if x = true then u e1 else v e1 := id rfl
@[simp] theorem e_andV : mAndV a b env = (a env).bind (asB fun w e => if w = true then b e else .ok (.bl false) e) := by
  unfold mAndV asB
  cases a env with
  | ok x e =>
    cases x with
    | bl w => cases w <;> rfl
    | _ => rfl
  | exc x e => rfl
  | fail => rfl
@[simp] theorem e_orV : mOrV a b env = (a env).bind (asB fun w e => if w = true then .ok (.bl true) e else b e) := by
  unfold mOrV asB
  cases a env with
  | ok x e =>
    cases x with
    | bl w => cases w <;> rfl
    | _ => rfl
  | exc x e => rfl
  | fail => rfl
@[simp] theorem e_notV : mNotV a env = (a env).bind (asB fun w e => .ok (.bl (!w)) e) := by
  unfold mNotV asB
  cases a env with
  | ok x e => cases x <;> rfl
  | exc x e => rfl
  | fail => rfl
@[simp] theorem e_nil : mNil env = .ok [] env := id rfl
@[simp] theorem e_cons : mCons a as env = (a env).bind fun x e1 => (as e1).bind fun xs e2 => .ok (x :: xs) e2 := id rfl
@[simp] theorem e_tup : mTup as env = (as env).bind fun xs e1 => if xs.length ≤ sizeLine then .ok (.tup xs) e1 else .fail := id rfl
@[simp] theorem e_lst : mLst as env = (as env).bind fun xs e1 => if xs.length ≤ sizeLine then .ok (.lst xs) e1 else .fail := id rfl
@[simp] theorem e_cb : mCB g as env = (as env).bind fun xs e1 => ofO (g xs) e1 := id rfl
/-- from one statement to the next -/
def andThen (n : MS) : RS → RS
  | .nx e => n e
  | r => r
@[simp] theorem andThen_nx : andThen n (.nx env) = n env := id rfl
@[simp] theorem andThen_rt : andThen n (.rt x env) = .rt x env := id rfl
@[simp] theorem andThen_ro : andThen n (.ro o env) = .ro o env := id rfl
@[simp] theorem andThen_bk : andThen n (.bk env) = .bk env := id rfl
@[simp] theorem andThen_ct : andThen n (.ct env) = .ct env := id rfl
@[simp] theorem andThen_exc {x : Exn} : andThen n (.exc x env) = .exc x env := id rfl
@[simp] theorem andThen_fail : andThen n .fail = .fail := id rfl
@[simp] theorem e_seq : mSeq m n env = andThen n (m env) := by
  unfold mSeq andThen
  cases m env <;> rfl
@[simp] theorem e_skip : mSkip env = .nx env := id rfl
@[simp] theorem e_set : mSet i a env = (a env).on fun d e => .nx (e.set i (some (.d d))) := id rfl
@[simp] theorem e_setO : mSetO i mo env = (mo env).on fun o e => if i < e.length then .nx (e.set i (some o)) else .fail := id rfl
@[simp] theorem e_ret : mRet a env = (a env).on fun d e => .rt d e := id rfl
@[simp] theorem e_retO : mRetO mo env = (mo env).on fun o e => .ro o e := id rfl
@[simp] theorem e_drop : mDrop a env = (a env).on fun _ e => .nx e := id rfl
@[simp] theorem e_ifS : mIfS p m n env = (p env).on fun x e => if x = true then m e else n e := id rfl
@[simp] theorem e_D : mD a env = (a env).bind fun d e => .ok (.d d) e := id rfl
@[simp] theorem e_fz : mFz mo env = (mo env).bind fun o e => .ok (fz o) e := id rfl
@[simp] theorem e_lstO : mLstO as env = (as env).bind fun ds e => if ds.length ≤ sizeLine then .ok (oL ds) e else .fail := id rfl
@[simp] theorem e_par2 : mPar2 i j mo mo' env = (mo env).on fun o e1 => (mo' e1).on fun o' e2 => if i < e2.length ∧ j < e2.length then .nx ((e2.set i (some o)).set j (some o')) else .fail := id rfl
@[simp] theorem e_gV : gV i x env = some (env.set i (some (.d x))) := id rfl
@[simp] theorem e_gVnil : gVnil [] env = some env := id rfl
@[simp] theorem e_gVcons {u : D → DEnv → Option DEnv} {v : List D → DEnv → Option DEnv} : gVcons u v (x :: xs) env = (u x env).bind fun e => v xs e := id rfl
@[simp] theorem e_gT {v : List D → DEnv → Option DEnv} : gT i v (.tup xs) env = if xs.length = i then v xs env else none := id rfl
/-- a store's end -/
def stored : Option DEnv → RS
  | some e => .nx e
  | none => .fail
@[simp] theorem stored_some : stored (some env) = .nx env := id rfl
@[simp] theorem stored_none : stored none = .fail := id rfl
@[simp] theorem e_asg {u : D → DEnv → Option DEnv} : mAsg a u env = (a env).on fun d e => stored (u d e) := by
  unfold mAsg
  cases a env with
  | ok x e =>
    show (match u x e with | some e' => RS.nx e' | none => RS.fail) = stored (u x e)
    cases u x e <;> rfl
  | exc x e => rfl
  | fail => rfl
@[simp] theorem e_setO_lst : setO os k x = (ixN os.length k).bind fun j => match os[j]? with
  | some (.d _) => some (os.set j (.d x))
  | _ => none := id rfl
@[simp] theorem e_fz_lst : fz (.lst os) = .lst (fzs os) := id rfl
@[simp] theorem e_fz_ins {C : Str} {ns : List Str} : fz (.ins C ns os) = .ins C ns (fzs os) := id rfl
@[simp] theorem e_fzs_nil : fzs [] = [] := id rfl
@[simp] theorem e_fzs_cons : fzs (o :: os) = fz o :: fzs os := id rfl
@[simp] theorem nd_d : noD (.d x) = true := id rfl
@[simp] theorem nd_oL {ds : List D} : noD (oL ds) = true := noDs_map ds
@[simp] theorem nd_lst : noD (.lst os) = noDs os := id rfl
@[simp] theorem nd_ins {C : Str} {ns : List Str} : noD (.ins C ns os) = noDs os := id rfl
@[simp] theorem nds_nil : noDs [] = true := id rfl
@[simp] theorem nds_cons : noDs (o :: os) = (noD o && noDs os) := id rfl
@[simp] theorem nds_map {ds : List D} : noDs (ds.map O.d) = true := noDs_map ds
@[simp] theorem flat_non : flatD .non = true := id rfl
@[simp] theorem flat_bl {w : Bool} : flatD (.bl w) = true := id rfl
@[simp] theorem flat_int : flatD (.int k) = true := id rfl
@[simp] theorem flat_str : flatD (.str s) = true := id rfl
@[simp] theorem flatO_s : flatO (some x) = if flatD x = true then some x else none := id rfl
@[simp] theorem flatO_n : flatO none = none := id rfl
@[simp] theorem e_for {u : D → DEnv → Option DEnv} : mFor as u m env = (as env).on fun ds e => forM u m ds e := id rfl
@[simp] theorem e_iter : mIter a env = (a env).bind fun x e => ofO (iterD x) e := id rfl
@[simp] theorem e_rng : mRng as env = (as env).bind fun xs e => ofO (rngD xs) e := id rfl
@[simp] theorem e_enum : mEnum a env = (a env).bind fun x e => ofO (enumD x) e := id rfl
@[simp] theorem v_iterL : iterD (.lst xs) = some xs := id rfl
@[simp] theorem v_iterT : iterD (.tup xs) = some xs := id rfl
@[simp] theorem v_iterC {ns : List Int} : iterD (.scr ns) = some (ns.map .int) := id rfl
@[simp] theorem v_enumL : enumD (.lst xs) = some (enumL 0 xs) := id rfl
@[simp] theorem v_enumT : enumD (.tup xs) = some (enumL 0 xs) := id rfl
@[simp] theorem e_slice {u v : DEnv → Rs (Option Int)} : mSlice a u v env = (a env).bind fun x e1 => (u e1).bind fun lo e2 => (v e2).bind fun hi e3 => ofO (sliceD x lo hi) e3 := id rfl
@[simp] theorem e_noPart : mNoPart env = .ok none env := id rfl
def asI {α : Type} (k : Int → DEnv → Rs α) : D → DEnv → Rs α := fun x e => match x with
  | .int i => k i e
  | _ => .fail
@[simp] theorem e_asI {k : Int → DEnv → Rs α} {w : Int} : asI k (.int w) env = k w env := id rfl
@[simp] theorem e_part : mPart a env = (a env).bind (asI fun i e => .ok (some i) e) := by
  unfold mPart asI
  cases a env with
  | ok x e => cases x <;> rfl
  | exc x e => rfl
  | fail => rfl
@[simp] theorem v_sliceL {lo hi : Option Int} : sliceD (.lst xs) lo hi = some (.lst (cutD xs lo hi)) := id rfl
@[simp] theorem v_sliceT {lo hi : Option Int} : sliceD (.tup xs) lo hi = some (.tup (cutD xs lo hi)) := id rfl
@[simp] theorem v_sliceC {lo hi : Option Int} {ns : List Int} : sliceD (.scr ns) lo hi = some (.lst ((cutD ns lo hi).map .int)) := id rfl
theorem size_e : sizeLine = 16777216 := by decide
@[simp] theorem e_star : mStar a as env = (a env).bind fun x e1 => match x with
  | .tup ys => (as e1).bind fun xs e2 => .ok (ys ++ xs) e2
  | .lst ys => (as e1).bind fun xs e2 => .ok (ys ++ xs) e2
  | _ => .fail := id rfl
@[simp] theorem e_lcs {it tst elt} {u : D → DEnv → Option DEnv} {vs : List Nat} : mLcs it u tst elt vs env = (it env).bind fun ds e => if ds.length < sizeLine ∧ vs.all (· < e.length) = true then lcM u tst elt vs ds (wipeE e vs) else .fail := id rfl
@[simp] theorem e_lc {it tst elt} {u : D → DEnv → Option DEnv} {vs : List Nat} : mLc it u tst elt vs env = (mLcs it u tst elt vs env).bind fun ys e => .ok (.lst ys) e := id rfl
@[simp] theorem e_lcs2 {it it1 tst tst1 elt} {u u1 : D → DEnv → Option DEnv} {vs vs1 : List Nat} : mLcs2 it u tst it1 u1 tst1 elt vs vs1 env = (it env).bind fun ds e => if ds.length < 4096 ∧ vs.all (· < e.length) = true then lcM2 u tst it1 u1 tst1 elt vs vs1 ds (wipeE e vs) else .fail := id rfl
@[simp] theorem e_lc2 {it it1 tst tst1 elt} {u u1 : D → DEnv → Option DEnv} {vs vs1 : List Nat} : mLc2 it u tst it1 u1 tst1 elt vs vs1 env = (mLcs2 it u tst it1 u1 tst1 elt vs vs1 env).bind fun ys e => .ok (.lst ys) e := id rfl
@[simp] theorem e_yes : mYes env = .ok true env := id rfl
@[simp] theorem e_wipe0 : wipeE env [] = env := id rfl
@[simp] theorem e_wipe1 {v : Nat} {vs : List Nat} : wipeE env (v :: vs) = (wipeE env vs).set v none := id rfl
@[simp] theorem v_add : addD (.int k) (.int l) = some (.int (k + l)) := id rfl
@[simp] theorem v_addL : addD (.lst xs) (.lst ys) = if xs.length + ys.length ≤ sizeLine then some (.lst (xs ++ ys)) else none := id rfl
@[simp] theorem v_addT : addD (.tup xs) (.tup ys) = if xs.length + ys.length ≤ sizeLine then some (.tup (xs ++ ys)) else none := id rfl
@[simp] theorem v_addS : addD (.str s) (.str t) = if s.length + t.length ≤ sizeLine then some (.str (s ++ t)) else none := id rfl
@[simp] theorem v_mul : mulD (.int k) (.int l) = if ((decide (-(2 ^ 64) < k) && decide (k < 2 ^ 64)) || (decide (-(2 ^ 64) < l) && decide (l < 2 ^ 64))) = true then some (.int (k * l)) else none := id rfl
@[simp] theorem v_div : divD (.int k) (.int l) = if (decide (0 < l) && decide (l < 1073741824)) = true then some (.int (k / l)) else none := id rfl
@[simp] theorem v_mod : modD (.int k) (.int l) = if decide (0 < l) = true then some (.int (k % l)) else none := id rfl
@[simp] theorem v_pow : powD (.int k) (.int l) = if (decide (0 ≤ l) && decide (l ≤ 1000000) && decide (k.natAbs < 2 ^ 64)) = true then some (.int (k ^ l.toNat)) else none := id rfl
@[simp] theorem v_lt : ltD (.int k) (.int l) = some (.bl (decide (k < l))) := id rfl
@[simp] theorem v_le : leD (.int k) (.int l) = some (.bl (decide (k ≤ l))) := id rfl
@[simp] theorem v_gt : gtD (.int k) (.int l) = some (.bl (decide (l < k))) := id rfl
@[simp] theorem v_ge : geD (.int k) (.int l) = some (.bl (decide (l ≤ k))) := id rfl
@[simp] theorem v_neg : negD (.int k) = some (.int (-k)) := id rfl
@[simp] theorem v_is : isD x .non = some (.bl (isNonB x)) := id rfl
@[simp] theorem v_isNot : isNotD x .non = some (.bl (!isNonB x)) := id rfl
@[simp] theorem v_non1 : isNonB .non = true := id rfl
@[simp] theorem v_non2 : isNonB (.int k) = false := id rfl
@[simp] theorem v_non3 : isNonB (.str s) = false := id rfl
@[simp] theorem v_non4 : isNonB (.tup xs) = false := id rfl
@[simp] theorem v_non5 : isNonB (.lst xs) = false := id rfl
@[simp] theorem v_getL : getD (.lst xs) (.int k) = atI xs k := id rfl
@[simp] theorem v_getT : getD (.tup xs) (.int k) = atI xs k := id rfl
@[simp] theorem v_getS {ns : List Int} : getD (.scr ns) (.int k) = (atI ns k).map .int := id rfl
theorem atI_nat {xs : List α} {i : Nat} : atI xs (i : Int) = xs[i]? := by
  unfold atI ixN
  simp only [Int.natCast_nonneg, if_true, Int.ofNat_lt]
  by_cases h : i < xs.length
  · simp [h]
  · simp [h]
@[simp] theorem atI_0 {xs : List α} : atI xs 0 = xs[0]? := atI_nat (i := 0)
@[simp] theorem atI_1 {xs : List α} : atI xs 1 = xs[1]? := atI_nat (i := 1)
@[simp] theorem atI_2 {xs : List α} : atI xs 2 = xs[2]? := atI_nat (i := 2)
@[simp] theorem atI_3 {xs : List α} : atI xs 3 = xs[3]? := atI_nat (i := 3)
@[simp] theorem atI_4 {xs : List α} : atI xs 4 = xs[4]? := atI_nat (i := 4)
@[simp] theorem atI_5 {xs : List α} : atI xs 5 = xs[5]? := atI_nat (i := 5)
@[simp] theorem atI_6 {xs : List α} : atI xs 6 = xs[6]? := atI_nat (i := 6)
@[simp] theorem atI_7 {xs : List α} : atI xs 7 = xs[7]? := atI_nat (i := 7)
@[simp] theorem atI_8 {xs : List α} : atI xs 8 = xs[8]? := atI_nat (i := 8)
@[simp] theorem atI_9 {xs : List α} : atI xs 9 = xs[9]? := atI_nat (i := 9)
@[simp] theorem atI_10 {xs : List α} : atI xs 10 = xs[10]? := atI_nat (i := 10)
@[simp] theorem atI_11 {xs : List α} : atI xs 11 = xs[11]? := atI_nat (i := 11)
@[simp] theorem atI_12 {xs : List α} : atI xs 12 = xs[12]? := atI_nat (i := 12)
@[simp] theorem atI_cast {xs : List α} {n : Nat} : atI xs (n : Int) = xs[n]? := atI_nat
@[simp] theorem v_lenL : lenD [.lst xs] = some (.int xs.length) := id rfl
@[simp] theorem v_lenT : lenD [.tup xs] = some (.int xs.length) := id rfl
@[simp] theorem v_lenC {ns : List Int} : lenD [.scr ns] = some (.int ns.length) := id rfl
@[simp] theorem v_lenS : lenD [.str s] = if s.length ≤ sizeLine then some (.int s.length) else none := id rfl
@[simp] theorem v_abs : absD [.int k] = some (.int (if k < 0 then -k else k)) := id rfl
@[simp] theorem v_max : max2D [.int k, .int l] = some (.int (if l > k then l else k)) := id rfl
@[simp] theorem v_min : min2D [.int k, .int l] = some (.int (if l < k then l else k)) := id rfl
@[simp] theorem v_int : intD [.int k] = some (.int k) := id rfl
@[simp] theorem v_divmod : divmodD [.int k, .int l] = if 0 < l ∧ l < 1073741824 then some (.tup [.int (k / l), .int (k % l)]) else none := id rfl
@[simp] theorem v_tupL : tupleD [.lst xs] = some (.tup xs) := id rfl
@[simp] theorem v_tupT : tupleD [.tup xs] = some (.tup xs) := id rfl
@[simp] theorem v_listL : listD [.lst xs] = some (.lst xs) := id rfl
@[simp] theorem v_listT : listD [.tup xs] = some (.lst xs) := id rfl
end
end DD
namespace DD
open PySem PySem.Spec PyProof.Rows L2
theorem forM_inv {tg : D → DEnv → Option DEnv} {body : MS} (I : List D → DEnv → Prop) (h : ∀ d ds env, I (d :: ds) env → ∃ e1 e2, tg d env = some e1 ∧ (body e1 = .nx e2 ∨ body e1 = .ct e2) ∧ I ds e2) :
    ∀ (ds : List D) (env : DEnv), I ds env → ∃ e, forM tg body ds env = .nx e ∧ I [] e
  | [], env, hI => ⟨env, rfl, hI⟩
  | d :: ds, env, hI => by
    obtain ⟨e1, e2, h1, h2, h3⟩ := h d ds env hI
    obtain ⟨e, k1, k2⟩ := forM_inv I h ds e2 h3
    refine ⟨e, ?_, k2⟩
    unfold forM
    rw [h1]
    rcases h2 with h2 | h2 <;> (simp only [h2]; exact k1)
theorem smallI_nat {n : Nat} (h : n < 2 ^ 62) : smallI (n : Int) = true := by
  unfold smallI
  simp only [Bool.and_eq_true, decide_eq_true_eq]
  omega
theorem v_range1 {n : Nat} (h : n < 2 ^ 62) : rngD [.int (n : Int)] = some ((List.range n).map fun k => .int (k : Nat)) := by
  show (if smallI (n : Int) = true then some (rngL 0 (n : Int).toNat) else none) = _
  rw [if_pos (smallI_nat h)]
  simp [rngL]
theorem v_cut {α : Type} {xs : List α} {a b : Nat} : cutD xs (some (a : Int)) (some (b : Int)) = (xs.take b).drop a := by
  unfold cutD HT.sIx
  simp only [Int.not_lt.mpr (Int.natCast_nonneg _), if_false, Int.toNat_natCast]
  rw [List.drop_take]
  by_cases ha : a ≤ xs.length
  · by_cases hb : b ≤ xs.length
    · simp [Nat.min_eq_left ha, Nat.min_eq_left hb]
    · have hb' : xs.length ≤ b := by omega
      rw [Nat.min_eq_left ha, Nat.min_eq_right hb']
      rw [List.take_of_length_le (by simp), List.take_of_length_le (by simp; omega)]
  · have ha' : xs.length ≤ a := by omega
    rw [Nat.min_eq_right ha']
    simp [List.drop_of_length_le ha']
theorem v_cut0 {α : Type} {xs : List α} {b : Nat} : cutD xs none (some (b : Int)) = xs.take b := by
  have := v_cut (xs := xs) (a := 0) (b := b)
  rw [List.drop_zero] at this
  rw [← this]
  unfold cutD HT.sIx
  simp
end DD
namespace DD
open PySem PySem.Spec PyProof.Rows L2
end DD
namespace DD
open PySem
end DD
namespace DD
open PySem PySem.Spec PyProof.Rows L2
end DD
set_option maxHeartbeats 4000000
namespace Mi
open PySem PySem.Spec PyProof.Rows L2 DD
def b_l_jar : MS := (mSeq (mSet 2 (mIf (mTest (mOp ltD (mVar 1) (mCB lenD (mCons (mVar 0) mNil)))) (mOp getD (mVar 0) (mVar 1)) (mOp addD (mOp mulD (mC (.int 9)) (mVar 1)) (mC (.int 5)))))
  (mSeq (mSet 3 (mOp addD (mC (.int 50023)) (mOp mulD (mC (.int 7013)) (mVar 1))))
  (mSeq (mFor (mIter (mOp addD (mSlice (mVar 0) mNoPart (mPart (mC (.int 5)))) (mLst (mCons (mVar 2) mNil)))) (gV 4) (mSet 3 (mOp modD (mCB intD (mCons (mOp addD (mOp mulD (mVar 3) (mC (.int 31337))) (mVar 4)) mNil)) (mC (.int 2147483249)))))
  (mRetO (mLstO (mCons (mIf (mOr (mTest (mOp ltD (mVar 2) (mC (.int 0)))) (mTest (mOp geD (mVar 2) (mOp powD (mC (.int 10)) (mC (.int 18)))))) (mCB absD (mCons (mVar 2) mNil)) (mC (.int 0))) (mCons (mVar 3) (mCons (mC (.int 0)) mNil))))))))
def m_l_jar : List D → RP := mFun 5 2 b_l_jar
def b_is_name : MS := (mRet (mAndV (mUn (isiD "str") (mVar 0)) (mAndV (mChain leD leD (mC (.int 1)) (mCB lenD (mCons (mVar 0) mNil)) (mC (.int 8))) (mCB allD (mCons (mLc (mIter (mVar 0)) (gV 1) mYes (mOp inD (mVar 1) (mC (.str "abcdefghijklmnopqrstuvwxyz"))) [1]) mNil)))))
def m_is_name : List D → RP := mFun 2 1 b_is_name
def b_is_client_name : MS := (mRet (mAndV (mCall m_is_name (mCons (mVar 0) mNil)) (mOp neD (mVar 0) (mC (.str "w")))))
def m_is_client_name : List D → RP := mFun 1 1 b_is_client_name
def b_l_dip : MS := (mSeq (mAsg (mOp addD (mOpL getD 0 (mC (.int 2))) (mC (.int 1))) (gIx 0 (mC (.int 2))))
  (mSeq (mIfS (mTest (mOp gtD (mOpL getD 0 (mC (.int 0))) (mC (.int 0)))) (mSeq (mAsg (mCB divmodD (mCons (mOpL getD 0 (mC (.int 0))) (mCons (mVar 1) mNil))) (gT 2 (gVcons (gIx 0 (mC (.int 0))) (gVcons (gV 2) gVnil))))
  (mRet (mVar 2))) mSkip)
  (mSeq (mAsg (mOp modD (mCB intD (mCons (mOp addD (mOp mulD (mOpL getD 0 (mC (.int 1))) (mC (.int 48271))) (mOp mulD (mC (.int 20011)) (mOpL getD 0 (mC (.int 2))))) mNil)) (mC (.int 2147483399))) (gIx 0 (mC (.int 1))))
  (mRet (mOp modD (mCB intD (mCons (mOp divD (mOpL getD 0 (mC (.int 1))) (mC (.int 512))) mNil)) (mVar 1))))))
def m_l_dip : O → List D → RI := mFunI 3 1 b_l_dip
def b_l_one_of : MS := (mRet (mOp getD (mVar 1) (mCallI 0 m_l_dip (mCons (mCB lenD (mCons (mVar 1) mNil)) mNil))))
def m_l_one_of : O → List D → RI := mFunI 2 1 b_l_one_of
end Mi
namespace Mi
open PySem PySem.Spec PyProof.Rows L2 DD
end Mi
namespace Mi
open PySem PySem.Spec PyProof.Rows L2 DD
end Mi
namespace Mi
open PySem PySem.Spec PyProof.Rows L2 DD
end Mi
namespace Mi
open PySem PySem.Spec PyProof.Rows L2 DD
end Mi
namespace Mi
open PySem PySem.Spec PyProof.Rows L2 DD
end Mi
namespace Mi
open PySem PySem.Spec PyProof.Rows L2 DD
end Mi
namespace Mi
open PySem PySem.Spec PyProof.Rows L2 DD
end Mi
namespace Mi
open PySem PySem.Spec PyProof.Rows L2 DD
end Mi
namespace Mi
open PySem PySem.Spec PyProof.Rows L2 DD
end Mi
namespace Mi
open PySem PySem.Spec PyProof.Rows L2 DD
end Mi
namespace Mi
open PySem PySem.Spec PyProof.Rows L2 DD
end Mi
namespace Mi
open PySem PySem.Spec PyProof.Rows L2 DD
end Mi
namespace Mi
open PySem PySem.Spec PyProof.Rows L2 DD
end Mi
namespace Mi
open PySem PySem.Spec PyProof.Rows L2 DD
end Mi
namespace Mi
open PySem PySem.Spec PyProof.Rows L2 DD
end Mi
namespace Mi
open PySem PySem.Spec PyProof.Rows L2 DD
end Mi
namespace Mi
open PySem PySem.Spec PyProof.Rows L2 DD
end Mi
namespace Mi
open PySem PySem.Spec PyProof.Rows L2 DD
end Mi
namespace Mi
open PySem PySem.Spec PyProof.Rows L2 DD
end Mi
namespace Mi
open PySem PySem.Spec PyProof.Rows L2 DD
end Mi
namespace Mi
open PySem PySem.Spec PyProof.Rows L2 DD
end Mi
namespace Mi
open PySem PySem.Spec PyProof.Rows L2 DD
end Mi
namespace Mi
open PySem PySem.Spec PyProof.Rows L2 DD
end Mi
namespace Mi
open PySem PySem.Spec PyProof.Rows L2 DD
end Mi
namespace Mi
open PySem PySem.Spec PyProof.Rows L2 DD
end Mi
namespace Mi
open PySem PySem.Spec PyProof.Rows L2 DD
end Mi
namespace Mi
open PySem PySem.Spec PyProof.Rows L2 DD
end Mi
namespace Mi
open PySem PySem.Spec PyProof.Rows L2 DD
end Mi
namespace Mi
open PySem PySem.Spec PyProof.Rows L2 DD
end Mi
namespace Mi
open PySem PySem.Spec PyProof.Rows L2 DD
end Mi
namespace Mi
open PySem PySem.Spec PyProof.Rows L2 DD
end Mi
namespace Mi
open PySem PySem.Spec PyProof.Rows L2 DD
end Mi
namespace Mi
open PySem PySem.Spec PyProof.Rows L2 DD
end Mi
namespace Mi
open PySem PySem.Spec PyProof.Rows L2 DD
end Mi
namespace Mi
open PySem PySem.Spec PyProof.Rows L2 DD
end Mi
namespace Mi
open PySem PySem.Spec PyProof.Rows L2 DD
end Mi
namespace Mi
open PySem PySem.Spec PyProof.Rows L2 DD
end Mi
namespace Mi
open PySem PySem.Spec PyProof.Rows L2 DD
end Mi
namespace Mi
open PySem PySem.Spec PyProof.Rows L2 DD
end Mi
namespace Mi
open PySem PySem.Spec PyProof.Rows L2 DD
end Mi
namespace Mi
open PySem PySem.Spec PyProof.Rows L2 DD
end Mi
namespace Mi
open PySem PySem.Spec PyProof.Rows L2 DD
end Mi
namespace Mi
open PySem PySem.Spec PyProof.Rows L2 DD
end Mi
namespace Mi
open PySem PySem.Spec PyProof.Rows L2 DD
end Mi
namespace Mi
open PySem PySem.Spec PyProof.Rows L2 DD
end Mi
namespace Mi
open PySem PySem.Spec PyProof.Rows L2 DD
end Mi
namespace Mi
open PySem PySem.Spec PyProof.Rows L2 DD
end Mi
namespace Mi
open PySem PySem.Spec PyProof.Rows L2 DD
end Mi
namespace Mi
open PySem PySem.Spec PyProof.Rows L2 DD
end Mi
namespace Mi
open PySem PySem.Spec PyProof.Rows L2 DD
end Mi
namespace Mi
open PySem PySem.Spec PyProof.Rows L2 DD
end Mi
namespace Mi
open PySem PySem.Spec PyProof.Rows L2 DD
end Mi
namespace Mi
open PySem PySem.Spec PyProof.Rows L2 DD
end Mi
namespace Mi
open PySem PySem.Spec PyProof.Rows L2 DD
end Mi
namespace Mi
open PySem PySem.Spec PyProof.Rows L2 DD
end Mi
namespace Mi
open PySem PySem.Spec PyProof.Rows L2 DD
end Mi
namespace Mi
open PySem PySem.Spec PyProof.Rows L2 DD
end Mi
namespace Mi
open PySem PySem.Spec PyProof.Rows L2 DD
end Mi
namespace Mi
open PySem PySem.Spec PyProof.Rows L2 DD
end Mi
namespace Mi
open PySem PySem.Spec PyProof.Rows L2 DD
end Mi
set_option maxHeartbeats 400000
namespace DD
open PySem PySem.Spec PyProof.Rows L2
end DD
set_option maxHeartbeats 4000000
namespace Mi
open PySem PySem.Spec PyProof.Rows L2 DD
end Mi
namespace Mi
open PySem PySem.Spec PyProof.Rows L2 DD
end Mi
namespace Mi
open PySem PySem.Spec PyProof.Rows L2 DD
end Mi
namespace Mi
open PySem PySem.Spec PyProof.Rows L2 DD
end Mi
namespace Mi
open PySem PySem.Spec PyProof.Rows L2 DD
def b_l_given_errors : MS := (mSeq (mSetO 1 (mLstO (mCons (mLst (mCons (mExn1 "InvalidText" "given" (mCons (mVar 0) mNil)) (mCons (mExn1 "InvalidText" "given" (mCons (mVar 0) mNil)) mNil))) (mCons (mLst (mCons (mExn1 "InvalidName" "given" (mCons (mVar 0) mNil)) (mCons (mExn1 "InvalidName" "given" (mCons (mVar 0) mNil)) mNil))) mNil))))
  (mSeq (mApp 1 (mLst (mCons (mExn1 "InvalidView" "given" (mCons (mVar 0) mNil)) (mCons (mExn1 "InvalidView" "given" (mCons (mVar 0) mNil)) mNil))))
  (mSeq (mApp 1 (mLst (mCons (mExn1 "InvalidKind" "given" (mCons (mVar 0) mNil)) (mCons (mExn1 "InvalidKind" "given" (mCons (mVar 0) mNil)) mNil))))
  (mSeq (mApp 1 (mLst (mCons (mExn1 "InvalidWish" "given" (mCons (mVar 0) mNil)) (mCons (mExn1 "InvalidWish" "given" (mCons (mVar 0) mNil)) mNil))))
  (mSeq (mApp 1 (mLst (mCons (mExn1 "InvalidIndex" "given" (mCons (mVar 0) mNil)) (mCons (mExn1 "InvalidIndex" "given" (mCons (mVar 0) mNil)) mNil))))
  (mSeq (mApp 1 (mLst (mCons (mExn1 "InvalidNumber" "given" (mCons (mVar 0) mNil)) (mCons (mExn1 "InvalidNumber" "given" (mCons (mVar 0) mNil)) mNil))))
  (mSeq (mApp 1 (mLst (mCons (mExn1 "InvalidLine" "given" (mCons (mVar 0) mNil)) (mCons (mExn1 "InvalidLine" "given" (mCons (mVar 0) mNil)) mNil))))
  (mSeq (mApp 1 (mLst (mCons (mExn1 "NotASetting" "given" (mCons (mVar 0) mNil)) (mCons (mExn1 "NotASetting" "given" (mCons (mVar 0) mNil)) mNil))))
  (mFrz 1 (mRet (mOp addD (mVar 1) (mLst (mCons (mLst (mCons (mExn1 "NotARun" "given" (mCons (mVar 0) mNil)) (mCons (mExn1 "NotARun" "given" (mCons (mVar 0) mNil)) mNil))) (mCons (mLst (mCons (mExn1 "NotARule" "given" (mCons (mVar 0) mNil)) (mCons (mExn1 "NotARule" "given" (mCons (mVar 0) mNil)) mNil))) mNil))))))))))))))
def m_l_given_errors : List D → RP := mFun 2 1 b_l_given_errors
def b_l_index_errors : MS := (mSeq (mSetO 1 (mLstO (mCons (mLst (mCons (mExn1 "InvalidHouses" "index" (mCons (mVar 0) mNil)) (mCons (mExn1 "InvalidHouses" "index" (mCons (mVar 0) mNil)) mNil))) (mCons (mLst (mCons (mExn1 "InvalidFails" "index" (mCons (mVar 0) mNil)) (mCons (mExn1 "InvalidFails" "index" (mCons (mVar 0) mNil)) mNil))) mNil))))
  (mSeq (mApp 1 (mLst (mCons (mExn1 "InvalidReaders" "index" (mCons (mVar 0) mNil)) (mCons (mExn1 "InvalidReaders" "index" (mCons (mVar 0) mNil)) mNil))))
  (mSeq (mApp 1 (mLst (mCons (mExn1 "InvalidPromises" "index" (mCons (mVar 0) mNil)) (mCons (mExn1 "InvalidPromises" "index" (mCons (mVar 0) mNil)) mNil))))
  (mSeq (mApp 1 (mLst (mCons (mExn1 "InvalidEvents" "index" (mCons (mVar 0) mNil)) (mCons (mExn1 "InvalidEvents" "index" (mCons (mVar 0) mNil)) mNil))))
  (mSeq (mApp 1 (mLst (mCons (mExn1 "InvalidOffers" "index" (mCons (mVar 0) mNil)) (mCons (mExn1 "InvalidOffers" "index" (mCons (mVar 0) mNil)) mNil))))
  (mFrz 1 (mRet (mOp addD (mVar 1) (mLst (mCons (mLst (mCons (mExn1 "InvalidDeeds" "index" (mCons (mVar 0) mNil)) (mCons (mExn1 "InvalidDeeds" "index" (mCons (mVar 0) mNil)) mNil))) mNil))))))))))
def m_l_index_errors : List D → RP := mFun 2 1 b_l_index_errors
def b_l_sorts : MS := (mSeq (mSetO 1 (mLstO (mCons (mUn (isED ["WrongValue", "InvalidText", "InvalidName", "InvalidView", "InvalidKind", "InvalidWish", "InvalidIndex", "InvalidNumber", "InvalidLine", "NotASetting", "NotARun", "NotARule", "InvalidHouses", "InvalidFails", "InvalidReaders", "InvalidPromises", "InvalidEvents", "InvalidOffers", "InvalidDeeds", "WrongName", "UnknownName", "NoAnswer", "NoRule", "NotReady", "Broken", "InUse", "NothingToUndo"] [("WrongValue", false), ("InvalidText", true), ("InvalidName", false), ("InvalidView", false), ("InvalidKind", false), ("InvalidWish", false), ("InvalidIndex", false), ("InvalidNumber", false), ("InvalidLine", false), ("NotASetting", false), ("NotARun", false), ("NotARule", false), ("InvalidHouses", false), ("InvalidFails", false), ("InvalidReaders", false), ("InvalidPromises", false), ("InvalidEvents", false), ("InvalidOffers", false), ("InvalidDeeds", false), ("WrongName", false), ("UnknownName", false), ("NoAnswer", false), ("NoRule", false), ("NotReady", false), ("Broken", false), ("InUse", false), ("NothingToUndo", false)]) (mVar 0)) (mCons (mUn (isED ["WrongValue", "InvalidText", "InvalidName", "InvalidView", "InvalidKind", "InvalidWish", "InvalidIndex", "InvalidNumber", "InvalidLine", "NotASetting", "NotARun", "NotARule", "InvalidHouses", "InvalidFails", "InvalidReaders", "InvalidPromises", "InvalidEvents", "InvalidOffers", "InvalidDeeds", "WrongName", "UnknownName", "NoAnswer", "NoRule", "NotReady", "Broken", "InUse", "NothingToUndo"] [("WrongValue", false), ("InvalidText", false), ("InvalidName", true), ("InvalidView", false), ("InvalidKind", false), ("InvalidWish", false), ("InvalidIndex", false), ("InvalidNumber", false), ("InvalidLine", false), ("NotASetting", false), ("NotARun", false), ("NotARule", false), ("InvalidHouses", false), ("InvalidFails", false), ("InvalidReaders", false), ("InvalidPromises", false), ("InvalidEvents", false), ("InvalidOffers", false), ("InvalidDeeds", false), ("WrongName", false), ("UnknownName", false), ("NoAnswer", false), ("NoRule", false), ("NotReady", false), ("Broken", false), ("InUse", false), ("NothingToUndo", false)]) (mVar 0)) (mCons (mUn (isED ["WrongValue", "InvalidText", "InvalidName", "InvalidView", "InvalidKind", "InvalidWish", "InvalidIndex", "InvalidNumber", "InvalidLine", "NotASetting", "NotARun", "NotARule", "InvalidHouses", "InvalidFails", "InvalidReaders", "InvalidPromises", "InvalidEvents", "InvalidOffers", "InvalidDeeds", "WrongName", "UnknownName", "NoAnswer", "NoRule", "NotReady", "Broken", "InUse", "NothingToUndo"] [("WrongValue", false), ("InvalidText", false), ("InvalidName", false), ("InvalidView", true), ("InvalidKind", false), ("InvalidWish", false), ("InvalidIndex", false), ("InvalidNumber", false), ("InvalidLine", false), ("NotASetting", false), ("NotARun", false), ("NotARule", false), ("InvalidHouses", false), ("InvalidFails", false), ("InvalidReaders", false), ("InvalidPromises", false), ("InvalidEvents", false), ("InvalidOffers", false), ("InvalidDeeds", false), ("WrongName", false), ("UnknownName", false), ("NoAnswer", false), ("NoRule", false), ("NotReady", false), ("Broken", false), ("InUse", false), ("NothingToUndo", false)]) (mVar 0)) mNil)))))
  (mSeq (mFrz 1 (mSetO 1 (mAddO (mVar 1) (mLst (mCons (mUn (isED ["WrongValue", "InvalidText", "InvalidName", "InvalidView", "InvalidKind", "InvalidWish", "InvalidIndex", "InvalidNumber", "InvalidLine", "NotASetting", "NotARun", "NotARule", "InvalidHouses", "InvalidFails", "InvalidReaders", "InvalidPromises", "InvalidEvents", "InvalidOffers", "InvalidDeeds", "WrongName", "UnknownName", "NoAnswer", "NoRule", "NotReady", "Broken", "InUse", "NothingToUndo"] [("WrongValue", false), ("InvalidText", false), ("InvalidName", false), ("InvalidView", false), ("InvalidKind", true), ("InvalidWish", false), ("InvalidIndex", false), ("InvalidNumber", false), ("InvalidLine", false), ("NotASetting", false), ("NotARun", false), ("NotARule", false), ("InvalidHouses", false), ("InvalidFails", false), ("InvalidReaders", false), ("InvalidPromises", false), ("InvalidEvents", false), ("InvalidOffers", false), ("InvalidDeeds", false), ("WrongName", false), ("UnknownName", false), ("NoAnswer", false), ("NoRule", false), ("NotReady", false), ("Broken", false), ("InUse", false), ("NothingToUndo", false)]) (mVar 0)) (mCons (mUn (isED ["WrongValue", "InvalidText", "InvalidName", "InvalidView", "InvalidKind", "InvalidWish", "InvalidIndex", "InvalidNumber", "InvalidLine", "NotASetting", "NotARun", "NotARule", "InvalidHouses", "InvalidFails", "InvalidReaders", "InvalidPromises", "InvalidEvents", "InvalidOffers", "InvalidDeeds", "WrongName", "UnknownName", "NoAnswer", "NoRule", "NotReady", "Broken", "InUse", "NothingToUndo"] [("WrongValue", false), ("InvalidText", false), ("InvalidName", false), ("InvalidView", false), ("InvalidKind", false), ("InvalidWish", true), ("InvalidIndex", false), ("InvalidNumber", false), ("InvalidLine", false), ("NotASetting", false), ("NotARun", false), ("NotARule", false), ("InvalidHouses", false), ("InvalidFails", false), ("InvalidReaders", false), ("InvalidPromises", false), ("InvalidEvents", false), ("InvalidOffers", false), ("InvalidDeeds", false), ("WrongName", false), ("UnknownName", false), ("NoAnswer", false), ("NoRule", false), ("NotReady", false), ("Broken", false), ("InUse", false), ("NothingToUndo", false)]) (mVar 0)) (mCons (mUn (isED ["WrongValue", "InvalidText", "InvalidName", "InvalidView", "InvalidKind", "InvalidWish", "InvalidIndex", "InvalidNumber", "InvalidLine", "NotASetting", "NotARun", "NotARule", "InvalidHouses", "InvalidFails", "InvalidReaders", "InvalidPromises", "InvalidEvents", "InvalidOffers", "InvalidDeeds", "WrongName", "UnknownName", "NoAnswer", "NoRule", "NotReady", "Broken", "InUse", "NothingToUndo"] [("WrongValue", false), ("InvalidText", false), ("InvalidName", false), ("InvalidView", false), ("InvalidKind", false), ("InvalidWish", false), ("InvalidIndex", true), ("InvalidNumber", false), ("InvalidLine", false), ("NotASetting", false), ("NotARun", false), ("NotARule", false), ("InvalidHouses", false), ("InvalidFails", false), ("InvalidReaders", false), ("InvalidPromises", false), ("InvalidEvents", false), ("InvalidOffers", false), ("InvalidDeeds", false), ("WrongName", false), ("UnknownName", false), ("NoAnswer", false), ("NoRule", false), ("NotReady", false), ("Broken", false), ("InUse", false), ("NothingToUndo", false)]) (mVar 0)) mNil)))))))
  (mSeq (mFrz 1 (mSetO 1 (mAddO (mVar 1) (mLst (mCons (mUn (isED ["WrongValue", "InvalidText", "InvalidName", "InvalidView", "InvalidKind", "InvalidWish", "InvalidIndex", "InvalidNumber", "InvalidLine", "NotASetting", "NotARun", "NotARule", "InvalidHouses", "InvalidFails", "InvalidReaders", "InvalidPromises", "InvalidEvents", "InvalidOffers", "InvalidDeeds", "WrongName", "UnknownName", "NoAnswer", "NoRule", "NotReady", "Broken", "InUse", "NothingToUndo"] [("WrongValue", false), ("InvalidText", false), ("InvalidName", false), ("InvalidView", false), ("InvalidKind", false), ("InvalidWish", false), ("InvalidIndex", false), ("InvalidNumber", true), ("InvalidLine", false), ("NotASetting", false), ("NotARun", false), ("NotARule", false), ("InvalidHouses", false), ("InvalidFails", false), ("InvalidReaders", false), ("InvalidPromises", false), ("InvalidEvents", false), ("InvalidOffers", false), ("InvalidDeeds", false), ("WrongName", false), ("UnknownName", false), ("NoAnswer", false), ("NoRule", false), ("NotReady", false), ("Broken", false), ("InUse", false), ("NothingToUndo", false)]) (mVar 0)) (mCons (mUn (isED ["WrongValue", "InvalidText", "InvalidName", "InvalidView", "InvalidKind", "InvalidWish", "InvalidIndex", "InvalidNumber", "InvalidLine", "NotASetting", "NotARun", "NotARule", "InvalidHouses", "InvalidFails", "InvalidReaders", "InvalidPromises", "InvalidEvents", "InvalidOffers", "InvalidDeeds", "WrongName", "UnknownName", "NoAnswer", "NoRule", "NotReady", "Broken", "InUse", "NothingToUndo"] [("WrongValue", false), ("InvalidText", false), ("InvalidName", false), ("InvalidView", false), ("InvalidKind", false), ("InvalidWish", false), ("InvalidIndex", false), ("InvalidNumber", false), ("InvalidLine", true), ("NotASetting", false), ("NotARun", false), ("NotARule", false), ("InvalidHouses", false), ("InvalidFails", false), ("InvalidReaders", false), ("InvalidPromises", false), ("InvalidEvents", false), ("InvalidOffers", false), ("InvalidDeeds", false), ("WrongName", false), ("UnknownName", false), ("NoAnswer", false), ("NoRule", false), ("NotReady", false), ("Broken", false), ("InUse", false), ("NothingToUndo", false)]) (mVar 0)) (mCons (mUn (isED ["WrongValue", "InvalidText", "InvalidName", "InvalidView", "InvalidKind", "InvalidWish", "InvalidIndex", "InvalidNumber", "InvalidLine", "NotASetting", "NotARun", "NotARule", "InvalidHouses", "InvalidFails", "InvalidReaders", "InvalidPromises", "InvalidEvents", "InvalidOffers", "InvalidDeeds", "WrongName", "UnknownName", "NoAnswer", "NoRule", "NotReady", "Broken", "InUse", "NothingToUndo"] [("WrongValue", false), ("InvalidText", false), ("InvalidName", false), ("InvalidView", false), ("InvalidKind", false), ("InvalidWish", false), ("InvalidIndex", false), ("InvalidNumber", false), ("InvalidLine", false), ("NotASetting", true), ("NotARun", false), ("NotARule", false), ("InvalidHouses", false), ("InvalidFails", false), ("InvalidReaders", false), ("InvalidPromises", false), ("InvalidEvents", false), ("InvalidOffers", false), ("InvalidDeeds", false), ("WrongName", false), ("UnknownName", false), ("NoAnswer", false), ("NoRule", false), ("NotReady", false), ("Broken", false), ("InUse", false), ("NothingToUndo", false)]) (mVar 0)) mNil)))))))
  (mSeq (mFrz 1 (mSetO 1 (mAddO (mVar 1) (mLst (mCons (mUn (isED ["WrongValue", "InvalidText", "InvalidName", "InvalidView", "InvalidKind", "InvalidWish", "InvalidIndex", "InvalidNumber", "InvalidLine", "NotASetting", "NotARun", "NotARule", "InvalidHouses", "InvalidFails", "InvalidReaders", "InvalidPromises", "InvalidEvents", "InvalidOffers", "InvalidDeeds", "WrongName", "UnknownName", "NoAnswer", "NoRule", "NotReady", "Broken", "InUse", "NothingToUndo"] [("WrongValue", false), ("InvalidText", false), ("InvalidName", false), ("InvalidView", false), ("InvalidKind", false), ("InvalidWish", false), ("InvalidIndex", false), ("InvalidNumber", false), ("InvalidLine", false), ("NotASetting", false), ("NotARun", true), ("NotARule", false), ("InvalidHouses", false), ("InvalidFails", false), ("InvalidReaders", false), ("InvalidPromises", false), ("InvalidEvents", false), ("InvalidOffers", false), ("InvalidDeeds", false), ("WrongName", false), ("UnknownName", false), ("NoAnswer", false), ("NoRule", false), ("NotReady", false), ("Broken", false), ("InUse", false), ("NothingToUndo", false)]) (mVar 0)) (mCons (mUn (isED ["WrongValue", "InvalidText", "InvalidName", "InvalidView", "InvalidKind", "InvalidWish", "InvalidIndex", "InvalidNumber", "InvalidLine", "NotASetting", "NotARun", "NotARule", "InvalidHouses", "InvalidFails", "InvalidReaders", "InvalidPromises", "InvalidEvents", "InvalidOffers", "InvalidDeeds", "WrongName", "UnknownName", "NoAnswer", "NoRule", "NotReady", "Broken", "InUse", "NothingToUndo"] [("WrongValue", false), ("InvalidText", false), ("InvalidName", false), ("InvalidView", false), ("InvalidKind", false), ("InvalidWish", false), ("InvalidIndex", false), ("InvalidNumber", false), ("InvalidLine", false), ("NotASetting", false), ("NotARun", false), ("NotARule", true), ("InvalidHouses", false), ("InvalidFails", false), ("InvalidReaders", false), ("InvalidPromises", false), ("InvalidEvents", false), ("InvalidOffers", false), ("InvalidDeeds", false), ("WrongName", false), ("UnknownName", false), ("NoAnswer", false), ("NoRule", false), ("NotReady", false), ("Broken", false), ("InUse", false), ("NothingToUndo", false)]) (mVar 0)) mNil))))))
  (mSeq (mFrz 1 (mSetO 1 (mAddO (mVar 1) (mLst (mCons (mUn (isED ["WrongValue", "InvalidText", "InvalidName", "InvalidView", "InvalidKind", "InvalidWish", "InvalidIndex", "InvalidNumber", "InvalidLine", "NotASetting", "NotARun", "NotARule", "InvalidHouses", "InvalidFails", "InvalidReaders", "InvalidPromises", "InvalidEvents", "InvalidOffers", "InvalidDeeds", "WrongName", "UnknownName", "NoAnswer", "NoRule", "NotReady", "Broken", "InUse", "NothingToUndo"] [("WrongValue", false), ("InvalidText", false), ("InvalidName", false), ("InvalidView", false), ("InvalidKind", false), ("InvalidWish", false), ("InvalidIndex", false), ("InvalidNumber", false), ("InvalidLine", false), ("NotASetting", false), ("NotARun", false), ("NotARule", false), ("InvalidHouses", true), ("InvalidFails", false), ("InvalidReaders", false), ("InvalidPromises", false), ("InvalidEvents", false), ("InvalidOffers", false), ("InvalidDeeds", false), ("WrongName", false), ("UnknownName", false), ("NoAnswer", false), ("NoRule", false), ("NotReady", false), ("Broken", false), ("InUse", false), ("NothingToUndo", false)]) (mVar 0)) (mCons (mUn (isED ["WrongValue", "InvalidText", "InvalidName", "InvalidView", "InvalidKind", "InvalidWish", "InvalidIndex", "InvalidNumber", "InvalidLine", "NotASetting", "NotARun", "NotARule", "InvalidHouses", "InvalidFails", "InvalidReaders", "InvalidPromises", "InvalidEvents", "InvalidOffers", "InvalidDeeds", "WrongName", "UnknownName", "NoAnswer", "NoRule", "NotReady", "Broken", "InUse", "NothingToUndo"] [("WrongValue", false), ("InvalidText", false), ("InvalidName", false), ("InvalidView", false), ("InvalidKind", false), ("InvalidWish", false), ("InvalidIndex", false), ("InvalidNumber", false), ("InvalidLine", false), ("NotASetting", false), ("NotARun", false), ("NotARule", false), ("InvalidHouses", false), ("InvalidFails", true), ("InvalidReaders", false), ("InvalidPromises", false), ("InvalidEvents", false), ("InvalidOffers", false), ("InvalidDeeds", false), ("WrongName", false), ("UnknownName", false), ("NoAnswer", false), ("NoRule", false), ("NotReady", false), ("Broken", false), ("InUse", false), ("NothingToUndo", false)]) (mVar 0)) (mCons (mUn (isED ["WrongValue", "InvalidText", "InvalidName", "InvalidView", "InvalidKind", "InvalidWish", "InvalidIndex", "InvalidNumber", "InvalidLine", "NotASetting", "NotARun", "NotARule", "InvalidHouses", "InvalidFails", "InvalidReaders", "InvalidPromises", "InvalidEvents", "InvalidOffers", "InvalidDeeds", "WrongName", "UnknownName", "NoAnswer", "NoRule", "NotReady", "Broken", "InUse", "NothingToUndo"] [("WrongValue", false), ("InvalidText", false), ("InvalidName", false), ("InvalidView", false), ("InvalidKind", false), ("InvalidWish", false), ("InvalidIndex", false), ("InvalidNumber", false), ("InvalidLine", false), ("NotASetting", false), ("NotARun", false), ("NotARule", false), ("InvalidHouses", false), ("InvalidFails", false), ("InvalidReaders", true), ("InvalidPromises", false), ("InvalidEvents", false), ("InvalidOffers", false), ("InvalidDeeds", false), ("WrongName", false), ("UnknownName", false), ("NoAnswer", false), ("NoRule", false), ("NotReady", false), ("Broken", false), ("InUse", false), ("NothingToUndo", false)]) (mVar 0)) mNil)))))))
  (mSeq (mFrz 1 (mSetO 1 (mAddO (mVar 1) (mLst (mCons (mUn (isED ["WrongValue", "InvalidText", "InvalidName", "InvalidView", "InvalidKind", "InvalidWish", "InvalidIndex", "InvalidNumber", "InvalidLine", "NotASetting", "NotARun", "NotARule", "InvalidHouses", "InvalidFails", "InvalidReaders", "InvalidPromises", "InvalidEvents", "InvalidOffers", "InvalidDeeds", "WrongName", "UnknownName", "NoAnswer", "NoRule", "NotReady", "Broken", "InUse", "NothingToUndo"] [("WrongValue", false), ("InvalidText", false), ("InvalidName", false), ("InvalidView", false), ("InvalidKind", false), ("InvalidWish", false), ("InvalidIndex", false), ("InvalidNumber", false), ("InvalidLine", false), ("NotASetting", false), ("NotARun", false), ("NotARule", false), ("InvalidHouses", false), ("InvalidFails", false), ("InvalidReaders", false), ("InvalidPromises", true), ("InvalidEvents", false), ("InvalidOffers", false), ("InvalidDeeds", false), ("WrongName", false), ("UnknownName", false), ("NoAnswer", false), ("NoRule", false), ("NotReady", false), ("Broken", false), ("InUse", false), ("NothingToUndo", false)]) (mVar 0)) (mCons (mUn (isED ["WrongValue", "InvalidText", "InvalidName", "InvalidView", "InvalidKind", "InvalidWish", "InvalidIndex", "InvalidNumber", "InvalidLine", "NotASetting", "NotARun", "NotARule", "InvalidHouses", "InvalidFails", "InvalidReaders", "InvalidPromises", "InvalidEvents", "InvalidOffers", "InvalidDeeds", "WrongName", "UnknownName", "NoAnswer", "NoRule", "NotReady", "Broken", "InUse", "NothingToUndo"] [("WrongValue", false), ("InvalidText", false), ("InvalidName", false), ("InvalidView", false), ("InvalidKind", false), ("InvalidWish", false), ("InvalidIndex", false), ("InvalidNumber", false), ("InvalidLine", false), ("NotASetting", false), ("NotARun", false), ("NotARule", false), ("InvalidHouses", false), ("InvalidFails", false), ("InvalidReaders", false), ("InvalidPromises", false), ("InvalidEvents", true), ("InvalidOffers", false), ("InvalidDeeds", false), ("WrongName", false), ("UnknownName", false), ("NoAnswer", false), ("NoRule", false), ("NotReady", false), ("Broken", false), ("InUse", false), ("NothingToUndo", false)]) (mVar 0)) (mCons (mUn (isED ["WrongValue", "InvalidText", "InvalidName", "InvalidView", "InvalidKind", "InvalidWish", "InvalidIndex", "InvalidNumber", "InvalidLine", "NotASetting", "NotARun", "NotARule", "InvalidHouses", "InvalidFails", "InvalidReaders", "InvalidPromises", "InvalidEvents", "InvalidOffers", "InvalidDeeds", "WrongName", "UnknownName", "NoAnswer", "NoRule", "NotReady", "Broken", "InUse", "NothingToUndo"] [("WrongValue", false), ("InvalidText", false), ("InvalidName", false), ("InvalidView", false), ("InvalidKind", false), ("InvalidWish", false), ("InvalidIndex", false), ("InvalidNumber", false), ("InvalidLine", false), ("NotASetting", false), ("NotARun", false), ("NotARule", false), ("InvalidHouses", false), ("InvalidFails", false), ("InvalidReaders", false), ("InvalidPromises", false), ("InvalidEvents", false), ("InvalidOffers", true), ("InvalidDeeds", false), ("WrongName", false), ("UnknownName", false), ("NoAnswer", false), ("NoRule", false), ("NotReady", false), ("Broken", false), ("InUse", false), ("NothingToUndo", false)]) (mVar 0)) mNil)))))))
  (mSeq (mFrz 1 (mSetO 1 (mAddO (mVar 1) (mLst (mCons (mUn (isED ["WrongValue", "InvalidText", "InvalidName", "InvalidView", "InvalidKind", "InvalidWish", "InvalidIndex", "InvalidNumber", "InvalidLine", "NotASetting", "NotARun", "NotARule", "InvalidHouses", "InvalidFails", "InvalidReaders", "InvalidPromises", "InvalidEvents", "InvalidOffers", "InvalidDeeds", "WrongName", "UnknownName", "NoAnswer", "NoRule", "NotReady", "Broken", "InUse", "NothingToUndo"] [("WrongValue", false), ("InvalidText", false), ("InvalidName", false), ("InvalidView", false), ("InvalidKind", false), ("InvalidWish", false), ("InvalidIndex", false), ("InvalidNumber", false), ("InvalidLine", false), ("NotASetting", false), ("NotARun", false), ("NotARule", false), ("InvalidHouses", false), ("InvalidFails", false), ("InvalidReaders", false), ("InvalidPromises", false), ("InvalidEvents", false), ("InvalidOffers", false), ("InvalidDeeds", true), ("WrongName", false), ("UnknownName", false), ("NoAnswer", false), ("NoRule", false), ("NotReady", false), ("Broken", false), ("InUse", false), ("NothingToUndo", false)]) (mVar 0)) (mCons (mUn (isED ["WrongValue", "InvalidText", "InvalidName", "InvalidView", "InvalidKind", "InvalidWish", "InvalidIndex", "InvalidNumber", "InvalidLine", "NotASetting", "NotARun", "NotARule", "InvalidHouses", "InvalidFails", "InvalidReaders", "InvalidPromises", "InvalidEvents", "InvalidOffers", "InvalidDeeds", "WrongName", "UnknownName", "NoAnswer", "NoRule", "NotReady", "Broken", "InUse", "NothingToUndo"] [("WrongValue", false), ("InvalidText", false), ("InvalidName", false), ("InvalidView", false), ("InvalidKind", false), ("InvalidWish", false), ("InvalidIndex", false), ("InvalidNumber", false), ("InvalidLine", false), ("NotASetting", false), ("NotARun", false), ("NotARule", false), ("InvalidHouses", false), ("InvalidFails", false), ("InvalidReaders", false), ("InvalidPromises", false), ("InvalidEvents", false), ("InvalidOffers", false), ("InvalidDeeds", false), ("WrongName", false), ("UnknownName", true), ("NoAnswer", false), ("NoRule", false), ("NotReady", false), ("Broken", false), ("InUse", false), ("NothingToUndo", false)]) (mVar 0)) (mCons (mUn (isED ["WrongValue", "InvalidText", "InvalidName", "InvalidView", "InvalidKind", "InvalidWish", "InvalidIndex", "InvalidNumber", "InvalidLine", "NotASetting", "NotARun", "NotARule", "InvalidHouses", "InvalidFails", "InvalidReaders", "InvalidPromises", "InvalidEvents", "InvalidOffers", "InvalidDeeds", "WrongName", "UnknownName", "NoAnswer", "NoRule", "NotReady", "Broken", "InUse", "NothingToUndo"] [("WrongValue", false), ("InvalidText", false), ("InvalidName", false), ("InvalidView", false), ("InvalidKind", false), ("InvalidWish", false), ("InvalidIndex", false), ("InvalidNumber", false), ("InvalidLine", false), ("NotASetting", false), ("NotARun", false), ("NotARule", false), ("InvalidHouses", false), ("InvalidFails", false), ("InvalidReaders", false), ("InvalidPromises", false), ("InvalidEvents", false), ("InvalidOffers", false), ("InvalidDeeds", false), ("WrongName", false), ("UnknownName", false), ("NoAnswer", false), ("NoRule", true), ("NotReady", false), ("Broken", false), ("InUse", false), ("NothingToUndo", false)]) (mVar 0)) mNil)))))))
  (mSeq (mFrz 1 (mSetO 1 (mAddO (mVar 1) (mLst (mCons (mUn (isED ["WrongValue", "InvalidText", "InvalidName", "InvalidView", "InvalidKind", "InvalidWish", "InvalidIndex", "InvalidNumber", "InvalidLine", "NotASetting", "NotARun", "NotARule", "InvalidHouses", "InvalidFails", "InvalidReaders", "InvalidPromises", "InvalidEvents", "InvalidOffers", "InvalidDeeds", "WrongName", "UnknownName", "NoAnswer", "NoRule", "NotReady", "Broken", "InUse", "NothingToUndo"] [("WrongValue", false), ("InvalidText", false), ("InvalidName", false), ("InvalidView", false), ("InvalidKind", false), ("InvalidWish", false), ("InvalidIndex", false), ("InvalidNumber", false), ("InvalidLine", false), ("NotASetting", false), ("NotARun", false), ("NotARule", false), ("InvalidHouses", false), ("InvalidFails", false), ("InvalidReaders", false), ("InvalidPromises", false), ("InvalidEvents", false), ("InvalidOffers", false), ("InvalidDeeds", false), ("WrongName", false), ("UnknownName", false), ("NoAnswer", false), ("NoRule", false), ("NotReady", true), ("Broken", false), ("InUse", false), ("NothingToUndo", false)]) (mVar 0)) (mCons (mUn (isED ["WrongValue", "InvalidText", "InvalidName", "InvalidView", "InvalidKind", "InvalidWish", "InvalidIndex", "InvalidNumber", "InvalidLine", "NotASetting", "NotARun", "NotARule", "InvalidHouses", "InvalidFails", "InvalidReaders", "InvalidPromises", "InvalidEvents", "InvalidOffers", "InvalidDeeds", "WrongName", "UnknownName", "NoAnswer", "NoRule", "NotReady", "Broken", "InUse", "NothingToUndo"] [("WrongValue", false), ("InvalidText", false), ("InvalidName", false), ("InvalidView", false), ("InvalidKind", false), ("InvalidWish", false), ("InvalidIndex", false), ("InvalidNumber", false), ("InvalidLine", false), ("NotASetting", false), ("NotARun", false), ("NotARule", false), ("InvalidHouses", false), ("InvalidFails", false), ("InvalidReaders", false), ("InvalidPromises", false), ("InvalidEvents", false), ("InvalidOffers", false), ("InvalidDeeds", false), ("WrongName", false), ("UnknownName", false), ("NoAnswer", false), ("NoRule", false), ("NotReady", false), ("Broken", true), ("InUse", false), ("NothingToUndo", false)]) (mVar 0)) (mCons (mUn (isED ["WrongValue", "InvalidText", "InvalidName", "InvalidView", "InvalidKind", "InvalidWish", "InvalidIndex", "InvalidNumber", "InvalidLine", "NotASetting", "NotARun", "NotARule", "InvalidHouses", "InvalidFails", "InvalidReaders", "InvalidPromises", "InvalidEvents", "InvalidOffers", "InvalidDeeds", "WrongName", "UnknownName", "NoAnswer", "NoRule", "NotReady", "Broken", "InUse", "NothingToUndo"] [("WrongValue", false), ("InvalidText", false), ("InvalidName", false), ("InvalidView", false), ("InvalidKind", false), ("InvalidWish", false), ("InvalidIndex", false), ("InvalidNumber", false), ("InvalidLine", false), ("NotASetting", false), ("NotARun", false), ("NotARule", false), ("InvalidHouses", false), ("InvalidFails", false), ("InvalidReaders", false), ("InvalidPromises", false), ("InvalidEvents", false), ("InvalidOffers", false), ("InvalidDeeds", false), ("WrongName", false), ("UnknownName", false), ("NoAnswer", false), ("NoRule", false), ("NotReady", false), ("Broken", false), ("InUse", true), ("NothingToUndo", false)]) (mVar 0)) mNil)))))))
  (mSeq (mApp 1 (mUn (isED ["WrongValue", "InvalidText", "InvalidName", "InvalidView", "InvalidKind", "InvalidWish", "InvalidIndex", "InvalidNumber", "InvalidLine", "NotASetting", "NotARun", "NotARule", "InvalidHouses", "InvalidFails", "InvalidReaders", "InvalidPromises", "InvalidEvents", "InvalidOffers", "InvalidDeeds", "WrongName", "UnknownName", "NoAnswer", "NoRule", "NotReady", "Broken", "InUse", "NothingToUndo"] [("WrongValue", false), ("InvalidText", false), ("InvalidName", false), ("InvalidView", false), ("InvalidKind", false), ("InvalidWish", false), ("InvalidIndex", false), ("InvalidNumber", false), ("InvalidLine", false), ("NotASetting", false), ("NotARun", false), ("NotARule", false), ("InvalidHouses", false), ("InvalidFails", false), ("InvalidReaders", false), ("InvalidPromises", false), ("InvalidEvents", false), ("InvalidOffers", false), ("InvalidDeeds", false), ("WrongName", false), ("UnknownName", false), ("NoAnswer", false), ("NoRule", false), ("NotReady", false), ("Broken", false), ("InUse", false), ("NothingToUndo", true)]) (mVar 0)))
  (mSeq (mSet 2 (mLst (mCons (mUn (isED ["WrongValue", "InvalidText", "InvalidName", "InvalidView", "InvalidKind", "InvalidWish", "InvalidIndex", "InvalidNumber", "InvalidLine", "NotASetting", "NotARun", "NotARule", "InvalidHouses", "InvalidFails", "InvalidReaders", "InvalidPromises", "InvalidEvents", "InvalidOffers", "InvalidDeeds", "WrongName", "UnknownName", "NoAnswer", "NoRule", "NotReady", "Broken", "InUse", "NothingToUndo"] [("WrongValue", true), ("InvalidText", true), ("InvalidName", true), ("InvalidView", true), ("InvalidKind", true), ("InvalidWish", true), ("InvalidIndex", true), ("InvalidNumber", true), ("InvalidLine", true), ("NotASetting", true), ("NotARun", true), ("NotARule", true), ("InvalidHouses", true), ("InvalidFails", true), ("InvalidReaders", true), ("InvalidPromises", true), ("InvalidEvents", true), ("InvalidOffers", true), ("InvalidDeeds", true), ("WrongName", false), ("UnknownName", false), ("NoAnswer", false), ("NoRule", false), ("NotReady", false), ("Broken", false), ("InUse", false), ("NothingToUndo", false)]) (mVar 0)) (mCons (mUn (isED ["WrongValue", "InvalidText", "InvalidName", "InvalidView", "InvalidKind", "InvalidWish", "InvalidIndex", "InvalidNumber", "InvalidLine", "NotASetting", "NotARun", "NotARule", "InvalidHouses", "InvalidFails", "InvalidReaders", "InvalidPromises", "InvalidEvents", "InvalidOffers", "InvalidDeeds", "WrongName", "UnknownName", "NoAnswer", "NoRule", "NotReady", "Broken", "InUse", "NothingToUndo"] [("WrongValue", false), ("InvalidText", false), ("InvalidName", false), ("InvalidView", false), ("InvalidKind", false), ("InvalidWish", false), ("InvalidIndex", false), ("InvalidNumber", false), ("InvalidLine", false), ("NotASetting", false), ("NotARun", false), ("NotARule", false), ("InvalidHouses", false), ("InvalidFails", false), ("InvalidReaders", false), ("InvalidPromises", false), ("InvalidEvents", false), ("InvalidOffers", false), ("InvalidDeeds", false), ("WrongName", true), ("UnknownName", true), ("NoAnswer", false), ("NoRule", false), ("NotReady", false), ("Broken", false), ("InUse", false), ("NothingToUndo", false)]) (mVar 0)) (mCons (mUn (isED ["WrongValue", "InvalidText", "InvalidName", "InvalidView", "InvalidKind", "InvalidWish", "InvalidIndex", "InvalidNumber", "InvalidLine", "NotASetting", "NotARun", "NotARule", "InvalidHouses", "InvalidFails", "InvalidReaders", "InvalidPromises", "InvalidEvents", "InvalidOffers", "InvalidDeeds", "WrongName", "UnknownName", "NoAnswer", "NoRule", "NotReady", "Broken", "InUse", "NothingToUndo"] [("WrongValue", false), ("InvalidText", false), ("InvalidName", false), ("InvalidView", false), ("InvalidKind", false), ("InvalidWish", false), ("InvalidIndex", false), ("InvalidNumber", false), ("InvalidLine", false), ("NotASetting", false), ("NotARun", false), ("NotARule", false), ("InvalidHouses", false), ("InvalidFails", false), ("InvalidReaders", false), ("InvalidPromises", false), ("InvalidEvents", false), ("InvalidOffers", false), ("InvalidDeeds", false), ("WrongName", false), ("UnknownName", false), ("NoAnswer", true), ("NoRule", true), ("NotReady", true), ("Broken", true), ("InUse", true), ("NothingToUndo", true)]) (mVar 0)) mNil)))))
  (mSeq (mSet 2 (mOp addD (mVar 2) (mLst (mCons (mUn (isED ["WrongValue", "InvalidText", "InvalidName", "InvalidView", "InvalidKind", "InvalidWish", "InvalidIndex", "InvalidNumber", "InvalidLine", "NotASetting", "NotARun", "NotARule", "InvalidHouses", "InvalidFails", "InvalidReaders", "InvalidPromises", "InvalidEvents", "InvalidOffers", "InvalidDeeds", "WrongName", "UnknownName", "NoAnswer", "NoRule", "NotReady", "Broken", "InUse", "NothingToUndo"] [("WrongValue", true), ("InvalidText", true), ("InvalidName", true), ("InvalidView", true), ("InvalidKind", true), ("InvalidWish", true), ("InvalidIndex", true), ("InvalidNumber", true), ("InvalidLine", true), ("NotASetting", true), ("NotARun", true), ("NotARule", true), ("InvalidHouses", true), ("InvalidFails", true), ("InvalidReaders", true), ("InvalidPromises", true), ("InvalidEvents", true), ("InvalidOffers", true), ("InvalidDeeds", true), ("WrongName", false), ("UnknownName", false), ("NoAnswer", false), ("NoRule", false), ("NotReady", false), ("Broken", false), ("InUse", false), ("NothingToUndo", false)]) (mVar 0)) (mCons (mUn (isED ["WrongValue", "InvalidText", "InvalidName", "InvalidView", "InvalidKind", "InvalidWish", "InvalidIndex", "InvalidNumber", "InvalidLine", "NotASetting", "NotARun", "NotARule", "InvalidHouses", "InvalidFails", "InvalidReaders", "InvalidPromises", "InvalidEvents", "InvalidOffers", "InvalidDeeds", "WrongName", "UnknownName", "NoAnswer", "NoRule", "NotReady", "Broken", "InUse", "NothingToUndo"] [("WrongValue", false), ("InvalidText", false), ("InvalidName", false), ("InvalidView", false), ("InvalidKind", false), ("InvalidWish", false), ("InvalidIndex", false), ("InvalidNumber", false), ("InvalidLine", false), ("NotASetting", false), ("NotARun", false), ("NotARule", false), ("InvalidHouses", false), ("InvalidFails", false), ("InvalidReaders", false), ("InvalidPromises", false), ("InvalidEvents", false), ("InvalidOffers", false), ("InvalidDeeds", false), ("WrongName", true), ("UnknownName", true), ("NoAnswer", false), ("NoRule", false), ("NotReady", false), ("Broken", false), ("InUse", false), ("NothingToUndo", false)]) (mVar 0)) (mCons (mUn (isED ["WrongValue", "InvalidText", "InvalidName", "InvalidView", "InvalidKind", "InvalidWish", "InvalidIndex", "InvalidNumber", "InvalidLine", "NotASetting", "NotARun", "NotARule", "InvalidHouses", "InvalidFails", "InvalidReaders", "InvalidPromises", "InvalidEvents", "InvalidOffers", "InvalidDeeds", "WrongName", "UnknownName", "NoAnswer", "NoRule", "NotReady", "Broken", "InUse", "NothingToUndo"] [("WrongValue", false), ("InvalidText", false), ("InvalidName", false), ("InvalidView", false), ("InvalidKind", false), ("InvalidWish", false), ("InvalidIndex", false), ("InvalidNumber", false), ("InvalidLine", false), ("NotASetting", false), ("NotARun", false), ("NotARule", false), ("InvalidHouses", false), ("InvalidFails", false), ("InvalidReaders", false), ("InvalidPromises", false), ("InvalidEvents", false), ("InvalidOffers", false), ("InvalidDeeds", false), ("WrongName", false), ("UnknownName", false), ("NoAnswer", true), ("NoRule", true), ("NotReady", true), ("Broken", true), ("InUse", true), ("NothingToUndo", true)]) (mVar 0)) mNil))))))
  (mRet (mOp addD (mLc (mRng (mCons (mC (.int 24)) mNil)) (gV 3) (mTest (mOpL getD 1 (mVar 3))) (mVar 3) [3]) (mLc (mRng (mCons (mC (.int 6)) mNil)) (gV 3) (mTest (mOp getD (mVar 2) (mVar 3))) (mOp addD (mC (.int 50)) (mVar 3)) [3]))))))))))))))
def m_l_sorts : List D → RP := mFun 4 1 b_l_sorts
def b_k01_l_right : MS := (mSeq (mSet 1 (mCallI 0 m_l_one_of (mCons (mLst (mCons (mC .non) (mCons (mC (.int 0)) (mCons (mUn negD (mC (.int 3))) (mCons (mC (.bl true)) (mCons (mC (.str "a")) (mCons (mC (.str "")) (mCons (mTup mNil) (mCons (mTup (mCons (mC (.int 1)) (mCons (mC (.int 2)) mNil))) (mCons (mLst mNil) (mCons (mLst (mCons (mC (.int 7)) mNil)) (mCons (mFz mDNew) (mCons (mFz (mDisp [((mC (.str "a")), (mC (.int 1)))])) (mCons (mOp powD (mC (.int 10)) (mC (.int 30))) (mCons (mTup (mCons (mC (.str "end")) (mCons (mC (.int 3)) mNil))) mNil))))))))))))))) mNil)))
  (mSeq (mFor (mEnum (mCall m_l_given_errors (mCons (mVar 1) mNil))) (gT 2 (gVcons (gV 2) (gVcons (gV 3) gVnil))) (mIfS (mTest (mOp neD (mLc (mIter (mVar 3)) (gV 4) mYes (mOp addD (mCall m_l_sorts (mCons (mVar 4) mNil)) (mLst (mCons (mCB reprND (mCons (mUn (fldED ["WrongValue", "InvalidText", "InvalidName", "InvalidView", "InvalidKind", "InvalidWish", "InvalidIndex", "InvalidNumber", "InvalidLine", "NotASetting", "NotARun", "NotARule", "InvalidHouses", "InvalidFails", "InvalidReaders", "InvalidPromises", "InvalidEvents", "InvalidOffers", "InvalidDeeds", "WrongName", "UnknownName", "NoAnswer", "NoRule", "NotReady", "Broken", "InUse", "NothingToUndo"] "given") (mVar 4)) mNil)) mNil))) [4]) (mOp repLD (mLst (mCons (mLst (mCons (mVar 2) (mCons (mC (.int 50)) (mCons (mC (.int 53)) (mCons (mCB reprND (mCons (mVar 1) mNil)) mNil))))) mNil)) (mC (.int 2))))) (mRet (mC (.bl false))) mSkip))
  (mSeq (mFor (mEnum (mCall m_l_index_errors (mCons (mVar 1) mNil))) (gT 2 (gVcons (gV 2) (gVcons (gV 3) gVnil))) (mIfS (mTest (mOp neD (mLc (mIter (mVar 3)) (gV 4) mYes (mOp addD (mCall m_l_sorts (mCons (mVar 4) mNil)) (mLst (mCons (mCB reprND (mCons (mUn (fldED ["WrongValue", "InvalidText", "InvalidName", "InvalidView", "InvalidKind", "InvalidWish", "InvalidIndex", "InvalidNumber", "InvalidLine", "NotASetting", "NotARun", "NotARule", "InvalidHouses", "InvalidFails", "InvalidReaders", "InvalidPromises", "InvalidEvents", "InvalidOffers", "InvalidDeeds", "WrongName", "UnknownName", "NoAnswer", "NoRule", "NotReady", "Broken", "InUse", "NothingToUndo"] "index") (mVar 4)) mNil)) mNil))) [4]) (mOp repLD (mLst (mCons (mLst (mCons (mOp addD (mC (.int 11)) (mVar 2)) (mCons (mC (.int 50)) (mCons (mC (.int 53)) (mCons (mCB reprND (mCons (mVar 1) mNil)) mNil))))) mNil)) (mC (.int 2))))) (mRet (mC (.bl false))) mSkip))
  (mSeq (mSet 3 (mLst (mCons (mExn1 "UnknownName" "given" (mCons (mVar 1) mNil)) (mCons (mExn1 "UnknownName" "given" (mCons (mVar 1) mNil)) mNil))))
  (mSeq (mIfS (mTest (mOp neD (mLc (mIter (mVar 3)) (gV 4) mYes (mOp addD (mCall m_l_sorts (mCons (mVar 4) mNil)) (mLst (mCons (mCB reprND (mCons (mUn (fldED ["WrongValue", "InvalidText", "InvalidName", "InvalidView", "InvalidKind", "InvalidWish", "InvalidIndex", "InvalidNumber", "InvalidLine", "NotASetting", "NotARun", "NotARule", "InvalidHouses", "InvalidFails", "InvalidReaders", "InvalidPromises", "InvalidEvents", "InvalidOffers", "InvalidDeeds", "WrongName", "UnknownName", "NoAnswer", "NoRule", "NotReady", "Broken", "InUse", "NothingToUndo"] "given") (mVar 4)) mNil)) mNil))) [4]) (mOp repLD (mLst (mCons (mLst (mCons (mC (.int 18)) (mCons (mC (.int 51)) (mCons (mC (.int 54)) (mCons (mCB reprND (mCons (mVar 1) mNil)) mNil))))) mNil)) (mC (.int 2))))) (mRet (mC (.bl false))) mSkip)
  (mSeq (mSet 3 (mLst (mCons (mExn1 "NotReady" "given" (mCons (mVar 1) mNil)) (mCons (mExn1 "NotReady" "given" (mCons (mVar 1) mNil)) mNil))))
  (mSeq (mIfS (mTest (mOp neD (mLc (mIter (mVar 3)) (gV 4) mYes (mOp addD (mCall m_l_sorts (mCons (mVar 4) mNil)) (mLst (mCons (mCB reprND (mCons (mUn (fldED ["WrongValue", "InvalidText", "InvalidName", "InvalidView", "InvalidKind", "InvalidWish", "InvalidIndex", "InvalidNumber", "InvalidLine", "NotASetting", "NotARun", "NotARule", "InvalidHouses", "InvalidFails", "InvalidReaders", "InvalidPromises", "InvalidEvents", "InvalidOffers", "InvalidDeeds", "WrongName", "UnknownName", "NoAnswer", "NoRule", "NotReady", "Broken", "InUse", "NothingToUndo"] "given") (mVar 4)) mNil)) mNil))) [4]) (mOp repLD (mLst (mCons (mLst (mCons (mC (.int 20)) (mCons (mC (.int 52)) (mCons (mC (.int 55)) (mCons (mCB reprND (mCons (mVar 1) mNil)) mNil))))) mNil)) (mC (.int 2))))) (mRet (mC (.bl false))) mSkip)
  (mSeq (mFor (mIter (mLst (mCons (mTup (mCons (mC (.int 21)) (mCons (mLst (mCons (mExn1 "Broken" "index" (mCons (mVar 1) mNil)) (mCons (mExn1 "Broken" "index" (mCons (mVar 1) mNil)) mNil))) mNil))) (mCons (mTup (mCons (mC (.int 22)) (mCons (mLst (mCons (mExn1 "InUse" "index" (mCons (mVar 1) mNil)) (mCons (mExn1 "InUse" "index" (mCons (mVar 1) mNil)) mNil))) mNil))) mNil)))) (gT 2 (gVcons (gV 2) (gVcons (gV 3) gVnil))) (mIfS (mTest (mOp neD (mLc (mIter (mVar 3)) (gV 4) mYes (mOp addD (mCall m_l_sorts (mCons (mVar 4) mNil)) (mLst (mCons (mCB reprND (mCons (mUn (fldED ["WrongValue", "InvalidText", "InvalidName", "InvalidView", "InvalidKind", "InvalidWish", "InvalidIndex", "InvalidNumber", "InvalidLine", "NotASetting", "NotARun", "NotARule", "InvalidHouses", "InvalidFails", "InvalidReaders", "InvalidPromises", "InvalidEvents", "InvalidOffers", "InvalidDeeds", "WrongName", "UnknownName", "NoAnswer", "NoRule", "NotReady", "Broken", "InUse", "NothingToUndo"] "index") (mVar 4)) mNil)) mNil))) [4]) (mOp repLD (mLst (mCons (mLst (mCons (mVar 2) (mCons (mC (.int 52)) (mCons (mC (.int 55)) (mCons (mCB reprND (mCons (mVar 1) mNil)) mNil))))) mNil)) (mC (.int 2))))) (mRet (mC (.bl false))) mSkip))
  (mRet (mC (.bl true)))))))))))
def m_k01_l_right : O → List D → RI := mFunI 5 0 b_k01_l_right
def b_k01_law : MS := (mSeq (mSet 1 (mLst (mCons (mC (.int 8)) (mCons (mC (.int 8)) (mCons (mC (.int 5)) (mCons (mC (.int 5)) (mCons (mC (.int 8)) (mCons (mC (.int 6)) (mCons (mC (.int 1000000000000000000000000000000)) (mCons (mC (.str "w")) mNil))))))))))
  (mSeq (mIfS (mTest (mOp neD (mCB reprND (mCons (mVar 1) mNil)) (mCB reprND (mCons (mLst (mCons (mC (.int 8)) (mCons (mC (.int 8)) (mCons (mC (.int 5)) (mCons (mC (.int 5)) (mCons (mC (.int 8)) (mCons (mC (.int 6)) (mCons (mOp powD (mC (.int 10)) (mC (.int 30))) (mCons (mC (.str "w")) mNil))))))))) mNil)))) (mRet (mC (.bl false))) mSkip)
  (mSeq (mSet 2 (mLst (mCons (mExn0 "NoRule") (mCons (mExn0 "NothingToUndo") (mCons (mExn0 "WrongValue") (mCons (mExn0 "WrongName") (mCons (mExn0 "NoAnswer") mNil)))))))
  (mSeq (mIfS (mTest (mOp neD (mLc (mIter (mVar 2)) (gV 3) mYes (mCall m_l_sorts (mCons (mVar 3) mNil)) [3]) (mLst (mCons (mLst (mCons (mC (.int 19)) (mCons (mC (.int 52)) (mCons (mC (.int 55)) mNil)))) (mCons (mLst (mCons (mC (.int 23)) (mCons (mC (.int 52)) (mCons (mC (.int 55)) mNil)))) (mCons (mLst (mCons (mC (.int 50)) (mCons (mC (.int 53)) mNil))) (mCons (mLst (mCons (mC (.int 51)) (mCons (mC (.int 54)) mNil))) (mCons (mLst (mCons (mC (.int 52)) (mCons (mC (.int 55)) mNil))) mNil)))))))) (mRet (mC (.bl false))) mSkip)
  (mRet (mCB allD (mCons (mLc (mRng (mCons (mCB max2D (mCons (mC (.int 2)) (mCons (mCB min2D (mCons (mCB lenD (mCons (mVar 0) mNil)) (mCons (mC (.int 6)) mNil))) mNil))) mNil)) (gV 4) mYes (mCallE m_k01_l_right (mCallO m_l_jar (mCons (mVar 0) (mCons (mVar 4) mNil))) mNil) [4]) mNil)))))))
def m_k01_law : List D → RP := mFun 5 1 b_k01_law
end Mi
namespace Law_k01
open PySem PySem.Spec PyProof.Rows L2 DD Mi
section
variable {P : Program} {w : World} {K : PySem.W.Frag} {mg : Str → Option Value} {base : Heap}
theorem sc_l_jar : FnScope N_l_jar ["_law_cells", "_law_turn"] (defScope st_l_jar) := ⟨rfl, rfl, rfl, by decide +kernel, rfl, by decide +kernel, by decide +kernel⟩
theorem ok_l_jar {f : Addr} {fd : FuncData} (F : FunD K "_law_jar" "_law_jar" (defArgs st_l_jar) (defBody st_l_jar) (defScope st_l_jar) [] [] f fd) (g_len : mg "len" = none) (g_int : mg "int" = none) (g_abs : mg "abs" = none) : FnD P w K mg base 1 f (spP K 2 m_l_jar) := by
  have sc := sc_l_jar
  exact fn_pure (k := 0) (m := b_l_jar) F sc_l_jar (F.bindsN fun _ _ _ _ _ _ us hl => match us, hl with | [_, _], _ => rfl) fun cdv A outer s H E hr tk ps => ⟨_,
    (pdb_cons (pds_set (i := 2) sc.nd rfl (.inl rfl) (pd_if (pdt_cmp op_lt opd_lt (dv 1) (pd_callB call_len cd_len rfl g_len bt_len (pda_cons (dv 0) pda_nil))) (pd_ix ix_getD opd_get (dv 0) (dv 1)) (pd_op op_addD opd_add (pd_op op_mul opd_mul pd_int (dv 1)) pd_int)))
    (pdb_cons (pds_set (i := 3) sc.nd rfl (.inl rfl) (pd_op op_addD opd_add pd_int (pd_op op_mul opd_mul pd_int (dv 1))))
    (pdb_cons (pds_for (wk := false) ps rfl (pdi_seq (pd_op op_addD opd_add (pd_slice (dv 0) pdp_none (pdp_some pd_int)) (pd_lst (pda_cons (dv 2) pda_nil)))) (pdg_name (i := 4) sc.nd rfl (.inl rfl)) (pdb_one (pds_set (i := 3) sc.nd rfl (.inl rfl) (pd_op op_mod opd_mod (pd_callTy call_int1 cd_int rfl g_int bt_int (pda_cons (pd_op op_addD opd_add (pd_op op_mul opd_mul (dv 3) pd_int) (dv 4)) pda_nil)) pd_int))))
    (pdb_one (pds_retO (pdo_lst (pda_cons (pd_if (pdt_w (pdw_or (pdt_cmp op_lt opd_lt (dv 2) pd_int) (pdw_or1 (pdt_cmp op_ge opd_ge (dv 2) (pd_op op_pow opd_pow pd_int pd_int))))) (pd_callB call_abs cd_abs rfl g_abs bt_abs (pda_cons (dv 2) pda_nil)) pd_int) (pda_cons (dv 3) (pda_cons pd_int pda_nil)))))))))⟩
theorem sc_l_given_errors : FnScope N_l_given_errors ["_law_thing"] (defScope st_l_given_errors) := ⟨rfl, rfl, rfl, by decide +kernel, rfl, by decide +kernel, by decide +kernel⟩
theorem ok_l_given_errors {f : Addr} {fd : FuncData} (F : FunD K "_law_given_errors" "_law_given_errors" (defArgs st_l_given_errors) (defBody st_l_given_errors) (defScope st_l_given_errors) [] [] f fd) (gx_InvalidText : mg "InvalidText" = some (.ref (cadr K "InvalidText"))) (xf_InvalidText : ExF P w K mg base "InvalidText" "given") (xk_InvalidText : ExFK P w K mg base "InvalidText" "given") (gx_InvalidName : mg "InvalidName" = some (.ref (cadr K "InvalidName"))) (xf_InvalidName : ExF P w K mg base "InvalidName" "given") (xk_InvalidName : ExFK P w K mg base "InvalidName" "given") (gx_InvalidView : mg "InvalidView" = some (.ref (cadr K "InvalidView"))) (xf_InvalidView : ExF P w K mg base "InvalidView" "given") (xk_InvalidView : ExFK P w K mg base "InvalidView" "given") (gx_InvalidKind : mg "InvalidKind" = some (.ref (cadr K "InvalidKind"))) (xf_InvalidKind : ExF P w K mg base "InvalidKind" "given") (xk_InvalidKind : ExFK P w K mg base "InvalidKind" "given") (gx_InvalidWish : mg "InvalidWish" = some (.ref (cadr K "InvalidWish"))) (xf_InvalidWish : ExF P w K mg base "InvalidWish" "given") (xk_InvalidWish : ExFK P w K mg base "InvalidWish" "given") (gx_InvalidIndex : mg "InvalidIndex" = some (.ref (cadr K "InvalidIndex"))) (xf_InvalidIndex : ExF P w K mg base "InvalidIndex" "given") (xk_InvalidIndex : ExFK P w K mg base "InvalidIndex" "given") (gx_InvalidNumber : mg "InvalidNumber" = some (.ref (cadr K "InvalidNumber"))) (xf_InvalidNumber : ExF P w K mg base "InvalidNumber" "given") (xk_InvalidNumber : ExFK P w K mg base "InvalidNumber" "given") (gx_InvalidLine : mg "InvalidLine" = some (.ref (cadr K "InvalidLine"))) (xf_InvalidLine : ExF P w K mg base "InvalidLine" "given") (xk_InvalidLine : ExFK P w K mg base "InvalidLine" "given") (gx_NotASetting : mg "NotASetting" = some (.ref (cadr K "NotASetting"))) (xf_NotASetting : ExF P w K mg base "NotASetting" "given") (xk_NotASetting : ExFK P w K mg base "NotASetting" "given") (gx_NotARun : mg "NotARun" = some (.ref (cadr K "NotARun"))) (xf_NotARun : ExF P w K mg base "NotARun" "given") (xk_NotARun : ExFK P w K mg base "NotARun" "given") (gx_NotARule : mg "NotARule" = some (.ref (cadr K "NotARule"))) (xf_NotARule : ExF P w K mg base "NotARule" "given") (xk_NotARule : ExFK P w K mg base "NotARule" "given") : FnD P w K mg base 3 f (spP K 1 m_l_given_errors) := by
  have sc := sc_l_given_errors
  exact fn_pure (k := 2) (m := b_l_given_errors) F sc_l_given_errors (F.bindsN fun _ _ _ _ _ _ us hl => match us, hl with | [_], _ => rfl) fun cdv A outer s H E hr tk ps => ⟨_,
    (pdb_cons (pds_setO (i := 1) sc.nd rfl (.inl rfl) (pdo_lst (pda_cons (pd_lst (pda_cons (pd_exn1 xf_InvalidText gx_InvalidText (hr.mono (by decide)) tk rfl (pda_cons (dv 0) pda_nil)) (pda_cons (pd_exn1K xk_InvalidText gx_InvalidText (hr.mono (by decide)) tk rfl (pdk_cons (dv 0) pdk_nil)) pda_nil))) (pda_cons (pd_lst (pda_cons (pd_exn1 xf_InvalidName gx_InvalidName (hr.mono (by decide)) tk rfl (pda_cons (dv 0) pda_nil)) (pda_cons (pd_exn1K xk_InvalidName gx_InvalidName (hr.mono (by decide)) tk rfl (pdk_cons (dv 0) pdk_nil)) pda_nil))) pda_nil))))
    (pdb_cons (pds_append (i := 1) (pnm 1) (pd_lst (pda_cons (pd_exn1 xf_InvalidView gx_InvalidView (hr.mono (by decide)) tk rfl (pda_cons (dv 0) pda_nil)) (pda_cons (pd_exn1K xk_InvalidView gx_InvalidView (hr.mono (by decide)) tk rfl (pdk_cons (dv 0) pdk_nil)) pda_nil))))
    (pdb_cons (pds_append (i := 1) (pnm 1) (pd_lst (pda_cons (pd_exn1 xf_InvalidKind gx_InvalidKind (hr.mono (by decide)) tk rfl (pda_cons (dv 0) pda_nil)) (pda_cons (pd_exn1K xk_InvalidKind gx_InvalidKind (hr.mono (by decide)) tk rfl (pdk_cons (dv 0) pdk_nil)) pda_nil))))
    (pdb_cons (pds_append (i := 1) (pnm 1) (pd_lst (pda_cons (pd_exn1 xf_InvalidWish gx_InvalidWish (hr.mono (by decide)) tk rfl (pda_cons (dv 0) pda_nil)) (pda_cons (pd_exn1K xk_InvalidWish gx_InvalidWish (hr.mono (by decide)) tk rfl (pdk_cons (dv 0) pdk_nil)) pda_nil))))
    (pdb_cons (pds_append (i := 1) (pnm 1) (pd_lst (pda_cons (pd_exn1 xf_InvalidIndex gx_InvalidIndex (hr.mono (by decide)) tk rfl (pda_cons (dv 0) pda_nil)) (pda_cons (pd_exn1K xk_InvalidIndex gx_InvalidIndex (hr.mono (by decide)) tk rfl (pdk_cons (dv 0) pdk_nil)) pda_nil))))
    (pdb_cons (pds_append (i := 1) (pnm 1) (pd_lst (pda_cons (pd_exn1 xf_InvalidNumber gx_InvalidNumber (hr.mono (by decide)) tk rfl (pda_cons (dv 0) pda_nil)) (pda_cons (pd_exn1K xk_InvalidNumber gx_InvalidNumber (hr.mono (by decide)) tk rfl (pdk_cons (dv 0) pdk_nil)) pda_nil))))
    (pdb_cons (pds_append (i := 1) (pnm 1) (pd_lst (pda_cons (pd_exn1 xf_InvalidLine gx_InvalidLine (hr.mono (by decide)) tk rfl (pda_cons (dv 0) pda_nil)) (pda_cons (pd_exn1K xk_InvalidLine gx_InvalidLine (hr.mono (by decide)) tk rfl (pdk_cons (dv 0) pdk_nil)) pda_nil))))
    (pdb_cons (pds_append (i := 1) (pnm 1) (pd_lst (pda_cons (pd_exn1 xf_NotASetting gx_NotASetting (hr.mono (by decide)) tk rfl (pda_cons (dv 0) pda_nil)) (pda_cons (pd_exn1K xk_NotASetting gx_NotASetting (hr.mono (by decide)) tk rfl (pdk_cons (dv 0) pdk_nil)) pda_nil))))
    (pdb_one (pds_frz (i := 1) (pds_ret (pd_op op_addD opd_add (dv 1) (pd_lst (pda_cons (pd_lst (pda_cons (pd_exn1 xf_NotARun gx_NotARun (hr.mono (by decide)) tk rfl (pda_cons (dv 0) pda_nil)) (pda_cons (pd_exn1K xk_NotARun gx_NotARun (hr.mono (by decide)) tk rfl (pdk_cons (dv 0) pdk_nil)) pda_nil))) (pda_cons (pd_lst (pda_cons (pd_exn1 xf_NotARule gx_NotARule (hr.mono (by decide)) tk rfl (pda_cons (dv 0) pda_nil)) (pda_cons (pd_exn1K xk_NotARule gx_NotARule (hr.mono (by decide)) tk rfl (pdk_cons (dv 0) pdk_nil)) pda_nil))) pda_nil)))))))))))))))⟩
theorem sc_l_index_errors : FnScope N_l_index_errors ["_law_thing"] (defScope st_l_index_errors) := ⟨rfl, rfl, rfl, by decide +kernel, rfl, by decide +kernel, by decide +kernel⟩
theorem ok_l_index_errors {f : Addr} {fd : FuncData} (F : FunD K "_law_index_errors" "_law_index_errors" (defArgs st_l_index_errors) (defBody st_l_index_errors) (defScope st_l_index_errors) [] [] f fd) (gx_InvalidHouses : mg "InvalidHouses" = some (.ref (cadr K "InvalidHouses"))) (xf_InvalidHouses : ExF P w K mg base "InvalidHouses" "index") (xk_InvalidHouses : ExFK P w K mg base "InvalidHouses" "index") (gx_InvalidFails : mg "InvalidFails" = some (.ref (cadr K "InvalidFails"))) (xf_InvalidFails : ExF P w K mg base "InvalidFails" "index") (xk_InvalidFails : ExFK P w K mg base "InvalidFails" "index") (gx_InvalidReaders : mg "InvalidReaders" = some (.ref (cadr K "InvalidReaders"))) (xf_InvalidReaders : ExF P w K mg base "InvalidReaders" "index") (xk_InvalidReaders : ExFK P w K mg base "InvalidReaders" "index") (gx_InvalidPromises : mg "InvalidPromises" = some (.ref (cadr K "InvalidPromises"))) (xf_InvalidPromises : ExF P w K mg base "InvalidPromises" "index") (xk_InvalidPromises : ExFK P w K mg base "InvalidPromises" "index") (gx_InvalidEvents : mg "InvalidEvents" = some (.ref (cadr K "InvalidEvents"))) (xf_InvalidEvents : ExF P w K mg base "InvalidEvents" "index") (xk_InvalidEvents : ExFK P w K mg base "InvalidEvents" "index") (gx_InvalidOffers : mg "InvalidOffers" = some (.ref (cadr K "InvalidOffers"))) (xf_InvalidOffers : ExF P w K mg base "InvalidOffers" "index") (xk_InvalidOffers : ExFK P w K mg base "InvalidOffers" "index") (gx_InvalidDeeds : mg "InvalidDeeds" = some (.ref (cadr K "InvalidDeeds"))) (xf_InvalidDeeds : ExF P w K mg base "InvalidDeeds" "index") (xk_InvalidDeeds : ExFK P w K mg base "InvalidDeeds" "index") : FnD P w K mg base 3 f (spP K 1 m_l_index_errors) := by
  have sc := sc_l_index_errors
  exact fn_pure (k := 2) (m := b_l_index_errors) F sc_l_index_errors (F.bindsN fun _ _ _ _ _ _ us hl => match us, hl with | [_], _ => rfl) fun cdv A outer s H E hr tk ps => ⟨_,
    (pdb_cons (pds_setO (i := 1) sc.nd rfl (.inl rfl) (pdo_lst (pda_cons (pd_lst (pda_cons (pd_exn1 xf_InvalidHouses gx_InvalidHouses (hr.mono (by decide)) tk rfl (pda_cons (dv 0) pda_nil)) (pda_cons (pd_exn1K xk_InvalidHouses gx_InvalidHouses (hr.mono (by decide)) tk rfl (pdk_cons (dv 0) pdk_nil)) pda_nil))) (pda_cons (pd_lst (pda_cons (pd_exn1 xf_InvalidFails gx_InvalidFails (hr.mono (by decide)) tk rfl (pda_cons (dv 0) pda_nil)) (pda_cons (pd_exn1K xk_InvalidFails gx_InvalidFails (hr.mono (by decide)) tk rfl (pdk_cons (dv 0) pdk_nil)) pda_nil))) pda_nil))))
    (pdb_cons (pds_append (i := 1) (pnm 1) (pd_lst (pda_cons (pd_exn1 xf_InvalidReaders gx_InvalidReaders (hr.mono (by decide)) tk rfl (pda_cons (dv 0) pda_nil)) (pda_cons (pd_exn1K xk_InvalidReaders gx_InvalidReaders (hr.mono (by decide)) tk rfl (pdk_cons (dv 0) pdk_nil)) pda_nil))))
    (pdb_cons (pds_append (i := 1) (pnm 1) (pd_lst (pda_cons (pd_exn1 xf_InvalidPromises gx_InvalidPromises (hr.mono (by decide)) tk rfl (pda_cons (dv 0) pda_nil)) (pda_cons (pd_exn1K xk_InvalidPromises gx_InvalidPromises (hr.mono (by decide)) tk rfl (pdk_cons (dv 0) pdk_nil)) pda_nil))))
    (pdb_cons (pds_append (i := 1) (pnm 1) (pd_lst (pda_cons (pd_exn1 xf_InvalidEvents gx_InvalidEvents (hr.mono (by decide)) tk rfl (pda_cons (dv 0) pda_nil)) (pda_cons (pd_exn1K xk_InvalidEvents gx_InvalidEvents (hr.mono (by decide)) tk rfl (pdk_cons (dv 0) pdk_nil)) pda_nil))))
    (pdb_cons (pds_append (i := 1) (pnm 1) (pd_lst (pda_cons (pd_exn1 xf_InvalidOffers gx_InvalidOffers (hr.mono (by decide)) tk rfl (pda_cons (dv 0) pda_nil)) (pda_cons (pd_exn1K xk_InvalidOffers gx_InvalidOffers (hr.mono (by decide)) tk rfl (pdk_cons (dv 0) pdk_nil)) pda_nil))))
    (pdb_one (pds_frz (i := 1) (pds_ret (pd_op op_addD opd_add (dv 1) (pd_lst (pda_cons (pd_lst (pda_cons (pd_exn1 xf_InvalidDeeds gx_InvalidDeeds (hr.mono (by decide)) tk rfl (pda_cons (dv 0) pda_nil)) (pda_cons (pd_exn1K xk_InvalidDeeds gx_InvalidDeeds (hr.mono (by decide)) tk rfl (pdk_cons (dv 0) pdk_nil)) pda_nil))) pda_nil)))))))))))⟩
end
end Law_k01
namespace Law_k01
open PySem PySem.Spec PyProof.Rows L2 DD Mi
section
variable {P : Program} {w : World} {K : PySem.W.Frag} {mg : Str → Option Value} {base : Heap}
theorem sc_l_dip : FnScope N_l_dip ["_law_jar_here", "_law_top"] (defScope st_l_dip) := ⟨rfl, rfl, rfl, by decide +kernel, rfl, by decide +kernel, by decide +kernel⟩
theorem ok_l_dip {f : Addr} {fd : FuncData} (F : FunD K "_law_dip" "_law_dip" (defArgs st_l_dip) (defBody st_l_dip) (defScope st_l_dip) [] [] f fd) (g_divmod : mg "divmod" = none) (g_int : mg "int" = none) : FnD P w K mg base 1 f (spI K 1 m_l_dip) := by
  have sc := sc_l_dip
  exact fn_io (k := 0) (m := b_l_dip) F sc_l_dip (F.bindsN fun _ _ _ _ _ _ us hl => match us, hl with | [_, _], _ => rfl) fun cdv A outer s H E hr tk ps => ⟨_,
    (pdb_cons (pds_asg (pd_op op_addD opd_add (pd_ixO (i := 0) ix_getD opd_get (pnm 0) pd_int) pd_int) (pdg_ix (i := 0) (pnm 0) pd_int))
    (pdb_cons (pds_if (pdt_cmp op_gt opd_gt (pd_ixO (i := 0) ix_getD opd_get (pnm 0) pd_int) pd_int) (pdb_cons (pds_asgw (pdw_divmod rfl g_divmod (pda_cons (pd_ixO (i := 0) ix_getD opd_get (pnm 0) pd_int) (pda_cons (dv 1) pda_nil))) (pdg_tup rfl (pdgs_cons (pdg_ix (i := 0) (pnm 0) pd_int) (pdgs_cons (pdg_name (i := 2) sc.nd rfl (.inl rfl)) pdgs_nil))))
    (pdb_one (pds_ret (dv 2)))) pdb_nil)
    (pdb_cons (pds_asg (pd_op op_mod opd_mod (pd_callTy call_int1 cd_int rfl g_int bt_int (pda_cons (pd_op op_addD opd_add (pd_op op_mul opd_mul (pd_ixO (i := 0) ix_getD opd_get (pnm 0) pd_int) pd_int) (pd_op op_mul opd_mul pd_int (pd_ixO (i := 0) ix_getD opd_get (pnm 0) pd_int))) pda_nil)) pd_int) (pdg_ix (i := 0) (pnm 0) pd_int))
    (pdb_one (pds_ret (pd_op op_mod opd_mod (pd_callTy call_int1 cd_int rfl g_int bt_int (pda_cons (pd_op op_fdiv opd_div (pd_ixO (i := 0) ix_getD opd_get (pnm 0) pd_int) pd_int) pda_nil)) (dv 1)))))))⟩
theorem sc_l_one_of : FnScope N_l_one_of ["_law_jar_here", "_law_some"] (defScope st_l_one_of) := ⟨rfl, rfl, rfl, by decide +kernel, rfl, by decide +kernel, by decide +kernel⟩
theorem ok_l_one_of {f : Addr} {fd : FuncData} (F : FunD K "_law_one_of" "_law_one_of" (defArgs st_l_one_of) (defBody st_l_one_of) (defScope st_l_one_of) [] [] f fd) (G_l_dip : DefI P w K mg base 1 "_law_dip" 1 m_l_dip) (g_len : mg "len" = none) : FnD P w K mg base 2 f (spI K 1 m_l_one_of) := by
  have sc := sc_l_one_of
  exact fn_io (k := 1) (m := b_l_one_of) F sc_l_one_of (F.bindsN fun _ _ _ _ _ _ us hl => match us, hl with | [_, _], _ => rfl) fun cdv A outer s H E hr tk ps => ⟨_,
    (pdb_one (pds_ret (pd_ix ix_getD opd_get (dv 1) (pd_callI (i := 0) G_l_dip (hr.mono (by decide)) rfl tk (pnm 0) (argN_cons argN_nil) (pda_cons (pd_callB call_len cd_len rfl g_len bt_len (pda_cons (dv 1) pda_nil)) pda_nil)))))⟩
theorem sc_l_sorts : FnScope N_l_sorts ["_law_e"] (defScope st_l_sorts) := ⟨rfl, rfl, rfl, by decide +kernel, rfl, by decide +kernel, by decide +kernel⟩
theorem ok_l_sorts {f : Addr} {fd : FuncData} (F : FunD K "_law_sorts" "_law_sorts" (defArgs st_l_sorts) (defBody st_l_sorts) (defScope st_l_sorts) [] [] f fd) (g_isinstance : mg "isinstance" = none) (ecs : ExCs K ["WrongValue", "InvalidText", "InvalidName", "InvalidView", "InvalidKind", "InvalidWish", "InvalidIndex", "InvalidNumber", "InvalidLine", "NotASetting", "NotARun", "NotARule", "InvalidHouses", "InvalidFails", "InvalidReaders", "InvalidPromises", "InvalidEvents", "InvalidOffers", "InvalidDeeds", "WrongName", "UnknownName", "NoAnswer", "NoRule", "NotReady", "Broken", "InUse", "NothingToUndo"]) (gx_InvalidText : mg "InvalidText" = some (.ref (cadr K "InvalidText"))) (ie_InvalidText : IsEL K (.ref (cadr K "InvalidText")) [("WrongValue", false), ("InvalidText", true), ("InvalidName", false), ("InvalidView", false), ("InvalidKind", false), ("InvalidWish", false), ("InvalidIndex", false), ("InvalidNumber", false), ("InvalidLine", false), ("NotASetting", false), ("NotARun", false), ("NotARule", false), ("InvalidHouses", false), ("InvalidFails", false), ("InvalidReaders", false), ("InvalidPromises", false), ("InvalidEvents", false), ("InvalidOffers", false), ("InvalidDeeds", false), ("WrongName", false), ("UnknownName", false), ("NoAnswer", false), ("NoRule", false), ("NotReady", false), ("Broken", false), ("InUse", false), ("NothingToUndo", false)]) (gx_InvalidName : mg "InvalidName" = some (.ref (cadr K "InvalidName"))) (ie_InvalidName : IsEL K (.ref (cadr K "InvalidName")) [("WrongValue", false), ("InvalidText", false), ("InvalidName", true), ("InvalidView", false), ("InvalidKind", false), ("InvalidWish", false), ("InvalidIndex", false), ("InvalidNumber", false), ("InvalidLine", false), ("NotASetting", false), ("NotARun", false), ("NotARule", false), ("InvalidHouses", false), ("InvalidFails", false), ("InvalidReaders", false), ("InvalidPromises", false), ("InvalidEvents", false), ("InvalidOffers", false), ("InvalidDeeds", false), ("WrongName", false), ("UnknownName", false), ("NoAnswer", false), ("NoRule", false), ("NotReady", false), ("Broken", false), ("InUse", false), ("NothingToUndo", false)]) (gx_InvalidView : mg "InvalidView" = some (.ref (cadr K "InvalidView"))) (ie_InvalidView : IsEL K (.ref (cadr K "InvalidView")) [("WrongValue", false), ("InvalidText", false), ("InvalidName", false), ("InvalidView", true), ("InvalidKind", false), ("InvalidWish", false), ("InvalidIndex", false), ("InvalidNumber", false), ("InvalidLine", false), ("NotASetting", false), ("NotARun", false), ("NotARule", false), ("InvalidHouses", false), ("InvalidFails", false), ("InvalidReaders", false), ("InvalidPromises", false), ("InvalidEvents", false), ("InvalidOffers", false), ("InvalidDeeds", false), ("WrongName", false), ("UnknownName", false), ("NoAnswer", false), ("NoRule", false), ("NotReady", false), ("Broken", false), ("InUse", false), ("NothingToUndo", false)]) (gx_InvalidKind : mg "InvalidKind" = some (.ref (cadr K "InvalidKind"))) (ie_InvalidKind : IsEL K (.ref (cadr K "InvalidKind")) [("WrongValue", false), ("InvalidText", false), ("InvalidName", false), ("InvalidView", false), ("InvalidKind", true), ("InvalidWish", false), ("InvalidIndex", false), ("InvalidNumber", false), ("InvalidLine", false), ("NotASetting", false), ("NotARun", false), ("NotARule", false), ("InvalidHouses", false), ("InvalidFails", false), ("InvalidReaders", false), ("InvalidPromises", false), ("InvalidEvents", false), ("InvalidOffers", false), ("InvalidDeeds", false), ("WrongName", false), ("UnknownName", false), ("NoAnswer", false), ("NoRule", false), ("NotReady", false), ("Broken", false), ("InUse", false), ("NothingToUndo", false)]) (gx_InvalidWish : mg "InvalidWish" = some (.ref (cadr K "InvalidWish"))) (ie_InvalidWish : IsEL K (.ref (cadr K "InvalidWish")) [("WrongValue", false), ("InvalidText", false), ("InvalidName", false), ("InvalidView", false), ("InvalidKind", false), ("InvalidWish", true), ("InvalidIndex", false), ("InvalidNumber", false), ("InvalidLine", false), ("NotASetting", false), ("NotARun", false), ("NotARule", false), ("InvalidHouses", false), ("InvalidFails", false), ("InvalidReaders", false), ("InvalidPromises", false), ("InvalidEvents", false), ("InvalidOffers", false), ("InvalidDeeds", false), ("WrongName", false), ("UnknownName", false), ("NoAnswer", false), ("NoRule", false), ("NotReady", false), ("Broken", false), ("InUse", false), ("NothingToUndo", false)]) (gx_InvalidIndex : mg "InvalidIndex" = some (.ref (cadr K "InvalidIndex"))) (ie_InvalidIndex : IsEL K (.ref (cadr K "InvalidIndex")) [("WrongValue", false), ("InvalidText", false), ("InvalidName", false), ("InvalidView", false), ("InvalidKind", false), ("InvalidWish", false), ("InvalidIndex", true), ("InvalidNumber", false), ("InvalidLine", false), ("NotASetting", false), ("NotARun", false), ("NotARule", false), ("InvalidHouses", false), ("InvalidFails", false), ("InvalidReaders", false), ("InvalidPromises", false), ("InvalidEvents", false), ("InvalidOffers", false), ("InvalidDeeds", false), ("WrongName", false), ("UnknownName", false), ("NoAnswer", false), ("NoRule", false), ("NotReady", false), ("Broken", false), ("InUse", false), ("NothingToUndo", false)]) (gx_InvalidNumber : mg "InvalidNumber" = some (.ref (cadr K "InvalidNumber"))) (ie_InvalidNumber : IsEL K (.ref (cadr K "InvalidNumber")) [("WrongValue", false), ("InvalidText", false), ("InvalidName", false), ("InvalidView", false), ("InvalidKind", false), ("InvalidWish", false), ("InvalidIndex", false), ("InvalidNumber", true), ("InvalidLine", false), ("NotASetting", false), ("NotARun", false), ("NotARule", false), ("InvalidHouses", false), ("InvalidFails", false), ("InvalidReaders", false), ("InvalidPromises", false), ("InvalidEvents", false), ("InvalidOffers", false), ("InvalidDeeds", false), ("WrongName", false), ("UnknownName", false), ("NoAnswer", false), ("NoRule", false), ("NotReady", false), ("Broken", false), ("InUse", false), ("NothingToUndo", false)]) (gx_InvalidLine : mg "InvalidLine" = some (.ref (cadr K "InvalidLine"))) (ie_InvalidLine : IsEL K (.ref (cadr K "InvalidLine")) [("WrongValue", false), ("InvalidText", false), ("InvalidName", false), ("InvalidView", false), ("InvalidKind", false), ("InvalidWish", false), ("InvalidIndex", false), ("InvalidNumber", false), ("InvalidLine", true), ("NotASetting", false), ("NotARun", false), ("NotARule", false), ("InvalidHouses", false), ("InvalidFails", false), ("InvalidReaders", false), ("InvalidPromises", false), ("InvalidEvents", false), ("InvalidOffers", false), ("InvalidDeeds", false), ("WrongName", false), ("UnknownName", false), ("NoAnswer", false), ("NoRule", false), ("NotReady", false), ("Broken", false), ("InUse", false), ("NothingToUndo", false)]) (gx_NotASetting : mg "NotASetting" = some (.ref (cadr K "NotASetting"))) (ie_NotASetting : IsEL K (.ref (cadr K "NotASetting")) [("WrongValue", false), ("InvalidText", false), ("InvalidName", false), ("InvalidView", false), ("InvalidKind", false), ("InvalidWish", false), ("InvalidIndex", false), ("InvalidNumber", false), ("InvalidLine", false), ("NotASetting", true), ("NotARun", false), ("NotARule", false), ("InvalidHouses", false), ("InvalidFails", false), ("InvalidReaders", false), ("InvalidPromises", false), ("InvalidEvents", false), ("InvalidOffers", false), ("InvalidDeeds", false), ("WrongName", false), ("UnknownName", false), ("NoAnswer", false), ("NoRule", false), ("NotReady", false), ("Broken", false), ("InUse", false), ("NothingToUndo", false)]) (gx_NotARun : mg "NotARun" = some (.ref (cadr K "NotARun"))) (ie_NotARun : IsEL K (.ref (cadr K "NotARun")) [("WrongValue", false), ("InvalidText", false), ("InvalidName", false), ("InvalidView", false), ("InvalidKind", false), ("InvalidWish", false), ("InvalidIndex", false), ("InvalidNumber", false), ("InvalidLine", false), ("NotASetting", false), ("NotARun", true), ("NotARule", false), ("InvalidHouses", false), ("InvalidFails", false), ("InvalidReaders", false), ("InvalidPromises", false), ("InvalidEvents", false), ("InvalidOffers", false), ("InvalidDeeds", false), ("WrongName", false), ("UnknownName", false), ("NoAnswer", false), ("NoRule", false), ("NotReady", false), ("Broken", false), ("InUse", false), ("NothingToUndo", false)]) (gx_NotARule : mg "NotARule" = some (.ref (cadr K "NotARule"))) (ie_NotARule : IsEL K (.ref (cadr K "NotARule")) [("WrongValue", false), ("InvalidText", false), ("InvalidName", false), ("InvalidView", false), ("InvalidKind", false), ("InvalidWish", false), ("InvalidIndex", false), ("InvalidNumber", false), ("InvalidLine", false), ("NotASetting", false), ("NotARun", false), ("NotARule", true), ("InvalidHouses", false), ("InvalidFails", false), ("InvalidReaders", false), ("InvalidPromises", false), ("InvalidEvents", false), ("InvalidOffers", false), ("InvalidDeeds", false), ("WrongName", false), ("UnknownName", false), ("NoAnswer", false), ("NoRule", false), ("NotReady", false), ("Broken", false), ("InUse", false), ("NothingToUndo", false)]) (gx_InvalidHouses : mg "InvalidHouses" = some (.ref (cadr K "InvalidHouses"))) (ie_InvalidHouses : IsEL K (.ref (cadr K "InvalidHouses")) [("WrongValue", false), ("InvalidText", false), ("InvalidName", false), ("InvalidView", false), ("InvalidKind", false), ("InvalidWish", false), ("InvalidIndex", false), ("InvalidNumber", false), ("InvalidLine", false), ("NotASetting", false), ("NotARun", false), ("NotARule", false), ("InvalidHouses", true), ("InvalidFails", false), ("InvalidReaders", false), ("InvalidPromises", false), ("InvalidEvents", false), ("InvalidOffers", false), ("InvalidDeeds", false), ("WrongName", false), ("UnknownName", false), ("NoAnswer", false), ("NoRule", false), ("NotReady", false), ("Broken", false), ("InUse", false), ("NothingToUndo", false)]) (gx_InvalidFails : mg "InvalidFails" = some (.ref (cadr K "InvalidFails"))) (ie_InvalidFails : IsEL K (.ref (cadr K "InvalidFails")) [("WrongValue", false), ("InvalidText", false), ("InvalidName", false), ("InvalidView", false), ("InvalidKind", false), ("InvalidWish", false), ("InvalidIndex", false), ("InvalidNumber", false), ("InvalidLine", false), ("NotASetting", false), ("NotARun", false), ("NotARule", false), ("InvalidHouses", false), ("InvalidFails", true), ("InvalidReaders", false), ("InvalidPromises", false), ("InvalidEvents", false), ("InvalidOffers", false), ("InvalidDeeds", false), ("WrongName", false), ("UnknownName", false), ("NoAnswer", false), ("NoRule", false), ("NotReady", false), ("Broken", false), ("InUse", false), ("NothingToUndo", false)]) (gx_InvalidReaders : mg "InvalidReaders" = some (.ref (cadr K "InvalidReaders"))) (ie_InvalidReaders : IsEL K (.ref (cadr K "InvalidReaders")) [("WrongValue", false), ("InvalidText", false), ("InvalidName", false), ("InvalidView", false), ("InvalidKind", false), ("InvalidWish", false), ("InvalidIndex", false), ("InvalidNumber", false), ("InvalidLine", false), ("NotASetting", false), ("NotARun", false), ("NotARule", false), ("InvalidHouses", false), ("InvalidFails", false), ("InvalidReaders", true), ("InvalidPromises", false), ("InvalidEvents", false), ("InvalidOffers", false), ("InvalidDeeds", false), ("WrongName", false), ("UnknownName", false), ("NoAnswer", false), ("NoRule", false), ("NotReady", false), ("Broken", false), ("InUse", false), ("NothingToUndo", false)]) (gx_InvalidPromises : mg "InvalidPromises" = some (.ref (cadr K "InvalidPromises"))) (ie_InvalidPromises : IsEL K (.ref (cadr K "InvalidPromises")) [("WrongValue", false), ("InvalidText", false), ("InvalidName", false), ("InvalidView", false), ("InvalidKind", false), ("InvalidWish", false), ("InvalidIndex", false), ("InvalidNumber", false), ("InvalidLine", false), ("NotASetting", false), ("NotARun", false), ("NotARule", false), ("InvalidHouses", false), ("InvalidFails", false), ("InvalidReaders", false), ("InvalidPromises", true), ("InvalidEvents", false), ("InvalidOffers", false), ("InvalidDeeds", false), ("WrongName", false), ("UnknownName", false), ("NoAnswer", false), ("NoRule", false), ("NotReady", false), ("Broken", false), ("InUse", false), ("NothingToUndo", false)]) (gx_InvalidEvents : mg "InvalidEvents" = some (.ref (cadr K "InvalidEvents"))) (ie_InvalidEvents : IsEL K (.ref (cadr K "InvalidEvents")) [("WrongValue", false), ("InvalidText", false), ("InvalidName", false), ("InvalidView", false), ("InvalidKind", false), ("InvalidWish", false), ("InvalidIndex", false), ("InvalidNumber", false), ("InvalidLine", false), ("NotASetting", false), ("NotARun", false), ("NotARule", false), ("InvalidHouses", false), ("InvalidFails", false), ("InvalidReaders", false), ("InvalidPromises", false), ("InvalidEvents", true), ("InvalidOffers", false), ("InvalidDeeds", false), ("WrongName", false), ("UnknownName", false), ("NoAnswer", false), ("NoRule", false), ("NotReady", false), ("Broken", false), ("InUse", false), ("NothingToUndo", false)]) (gx_InvalidOffers : mg "InvalidOffers" = some (.ref (cadr K "InvalidOffers"))) (ie_InvalidOffers : IsEL K (.ref (cadr K "InvalidOffers")) [("WrongValue", false), ("InvalidText", false), ("InvalidName", false), ("InvalidView", false), ("InvalidKind", false), ("InvalidWish", false), ("InvalidIndex", false), ("InvalidNumber", false), ("InvalidLine", false), ("NotASetting", false), ("NotARun", false), ("NotARule", false), ("InvalidHouses", false), ("InvalidFails", false), ("InvalidReaders", false), ("InvalidPromises", false), ("InvalidEvents", false), ("InvalidOffers", true), ("InvalidDeeds", false), ("WrongName", false), ("UnknownName", false), ("NoAnswer", false), ("NoRule", false), ("NotReady", false), ("Broken", false), ("InUse", false), ("NothingToUndo", false)]) (gx_InvalidDeeds : mg "InvalidDeeds" = some (.ref (cadr K "InvalidDeeds"))) (ie_InvalidDeeds : IsEL K (.ref (cadr K "InvalidDeeds")) [("WrongValue", false), ("InvalidText", false), ("InvalidName", false), ("InvalidView", false), ("InvalidKind", false), ("InvalidWish", false), ("InvalidIndex", false), ("InvalidNumber", false), ("InvalidLine", false), ("NotASetting", false), ("NotARun", false), ("NotARule", false), ("InvalidHouses", false), ("InvalidFails", false), ("InvalidReaders", false), ("InvalidPromises", false), ("InvalidEvents", false), ("InvalidOffers", false), ("InvalidDeeds", true), ("WrongName", false), ("UnknownName", false), ("NoAnswer", false), ("NoRule", false), ("NotReady", false), ("Broken", false), ("InUse", false), ("NothingToUndo", false)]) (gx_UnknownName : mg "UnknownName" = some (.ref (cadr K "UnknownName"))) (ie_UnknownName : IsEL K (.ref (cadr K "UnknownName")) [("WrongValue", false), ("InvalidText", false), ("InvalidName", false), ("InvalidView", false), ("InvalidKind", false), ("InvalidWish", false), ("InvalidIndex", false), ("InvalidNumber", false), ("InvalidLine", false), ("NotASetting", false), ("NotARun", false), ("NotARule", false), ("InvalidHouses", false), ("InvalidFails", false), ("InvalidReaders", false), ("InvalidPromises", false), ("InvalidEvents", false), ("InvalidOffers", false), ("InvalidDeeds", false), ("WrongName", false), ("UnknownName", true), ("NoAnswer", false), ("NoRule", false), ("NotReady", false), ("Broken", false), ("InUse", false), ("NothingToUndo", false)]) (gx_NoRule : mg "NoRule" = some (.ref (cadr K "NoRule"))) (ie_NoRule : IsEL K (.ref (cadr K "NoRule")) [("WrongValue", false), ("InvalidText", false), ("InvalidName", false), ("InvalidView", false), ("InvalidKind", false), ("InvalidWish", false), ("InvalidIndex", false), ("InvalidNumber", false), ("InvalidLine", false), ("NotASetting", false), ("NotARun", false), ("NotARule", false), ("InvalidHouses", false), ("InvalidFails", false), ("InvalidReaders", false), ("InvalidPromises", false), ("InvalidEvents", false), ("InvalidOffers", false), ("InvalidDeeds", false), ("WrongName", false), ("UnknownName", false), ("NoAnswer", false), ("NoRule", true), ("NotReady", false), ("Broken", false), ("InUse", false), ("NothingToUndo", false)]) (gx_NotReady : mg "NotReady" = some (.ref (cadr K "NotReady"))) (ie_NotReady : IsEL K (.ref (cadr K "NotReady")) [("WrongValue", false), ("InvalidText", false), ("InvalidName", false), ("InvalidView", false), ("InvalidKind", false), ("InvalidWish", false), ("InvalidIndex", false), ("InvalidNumber", false), ("InvalidLine", false), ("NotASetting", false), ("NotARun", false), ("NotARule", false), ("InvalidHouses", false), ("InvalidFails", false), ("InvalidReaders", false), ("InvalidPromises", false), ("InvalidEvents", false), ("InvalidOffers", false), ("InvalidDeeds", false), ("WrongName", false), ("UnknownName", false), ("NoAnswer", false), ("NoRule", false), ("NotReady", true), ("Broken", false), ("InUse", false), ("NothingToUndo", false)]) (gx_Broken : mg "Broken" = some (.ref (cadr K "Broken"))) (ie_Broken : IsEL K (.ref (cadr K "Broken")) [("WrongValue", false), ("InvalidText", false), ("InvalidName", false), ("InvalidView", false), ("InvalidKind", false), ("InvalidWish", false), ("InvalidIndex", false), ("InvalidNumber", false), ("InvalidLine", false), ("NotASetting", false), ("NotARun", false), ("NotARule", false), ("InvalidHouses", false), ("InvalidFails", false), ("InvalidReaders", false), ("InvalidPromises", false), ("InvalidEvents", false), ("InvalidOffers", false), ("InvalidDeeds", false), ("WrongName", false), ("UnknownName", false), ("NoAnswer", false), ("NoRule", false), ("NotReady", false), ("Broken", true), ("InUse", false), ("NothingToUndo", false)]) (gx_InUse : mg "InUse" = some (.ref (cadr K "InUse"))) (ie_InUse : IsEL K (.ref (cadr K "InUse")) [("WrongValue", false), ("InvalidText", false), ("InvalidName", false), ("InvalidView", false), ("InvalidKind", false), ("InvalidWish", false), ("InvalidIndex", false), ("InvalidNumber", false), ("InvalidLine", false), ("NotASetting", false), ("NotARun", false), ("NotARule", false), ("InvalidHouses", false), ("InvalidFails", false), ("InvalidReaders", false), ("InvalidPromises", false), ("InvalidEvents", false), ("InvalidOffers", false), ("InvalidDeeds", false), ("WrongName", false), ("UnknownName", false), ("NoAnswer", false), ("NoRule", false), ("NotReady", false), ("Broken", false), ("InUse", true), ("NothingToUndo", false)]) (gx_NothingToUndo : mg "NothingToUndo" = some (.ref (cadr K "NothingToUndo"))) (ie_NothingToUndo : IsEL K (.ref (cadr K "NothingToUndo")) [("WrongValue", false), ("InvalidText", false), ("InvalidName", false), ("InvalidView", false), ("InvalidKind", false), ("InvalidWish", false), ("InvalidIndex", false), ("InvalidNumber", false), ("InvalidLine", false), ("NotASetting", false), ("NotARun", false), ("NotARule", false), ("InvalidHouses", false), ("InvalidFails", false), ("InvalidReaders", false), ("InvalidPromises", false), ("InvalidEvents", false), ("InvalidOffers", false), ("InvalidDeeds", false), ("WrongName", false), ("UnknownName", false), ("NoAnswer", false), ("NoRule", false), ("NotReady", false), ("Broken", false), ("InUse", false), ("NothingToUndo", true)]) (gx_WrongValue : mg "WrongValue" = some (.ref (cadr K "WrongValue"))) (ie_WrongValue : IsEL K (.ref (cadr K "WrongValue")) [("WrongValue", true), ("InvalidText", true), ("InvalidName", true), ("InvalidView", true), ("InvalidKind", true), ("InvalidWish", true), ("InvalidIndex", true), ("InvalidNumber", true), ("InvalidLine", true), ("NotASetting", true), ("NotARun", true), ("NotARule", true), ("InvalidHouses", true), ("InvalidFails", true), ("InvalidReaders", true), ("InvalidPromises", true), ("InvalidEvents", true), ("InvalidOffers", true), ("InvalidDeeds", true), ("WrongName", false), ("UnknownName", false), ("NoAnswer", false), ("NoRule", false), ("NotReady", false), ("Broken", false), ("InUse", false), ("NothingToUndo", false)]) (gx_WrongName : mg "WrongName" = some (.ref (cadr K "WrongName"))) (ie_WrongName : IsEL K (.ref (cadr K "WrongName")) [("WrongValue", false), ("InvalidText", false), ("InvalidName", false), ("InvalidView", false), ("InvalidKind", false), ("InvalidWish", false), ("InvalidIndex", false), ("InvalidNumber", false), ("InvalidLine", false), ("NotASetting", false), ("NotARun", false), ("NotARule", false), ("InvalidHouses", false), ("InvalidFails", false), ("InvalidReaders", false), ("InvalidPromises", false), ("InvalidEvents", false), ("InvalidOffers", false), ("InvalidDeeds", false), ("WrongName", true), ("UnknownName", true), ("NoAnswer", false), ("NoRule", false), ("NotReady", false), ("Broken", false), ("InUse", false), ("NothingToUndo", false)]) (gx_NoAnswer : mg "NoAnswer" = some (.ref (cadr K "NoAnswer"))) (ie_NoAnswer : IsEL K (.ref (cadr K "NoAnswer")) [("WrongValue", false), ("InvalidText", false), ("InvalidName", false), ("InvalidView", false), ("InvalidKind", false), ("InvalidWish", false), ("InvalidIndex", false), ("InvalidNumber", false), ("InvalidLine", false), ("NotASetting", false), ("NotARun", false), ("NotARule", false), ("InvalidHouses", false), ("InvalidFails", false), ("InvalidReaders", false), ("InvalidPromises", false), ("InvalidEvents", false), ("InvalidOffers", false), ("InvalidDeeds", false), ("WrongName", false), ("UnknownName", false), ("NoAnswer", true), ("NoRule", true), ("NotReady", true), ("Broken", true), ("InUse", true), ("NothingToUndo", true)]) (g_ValueError : mg "ValueError" = none) (ieb_ValueError : IsEL K (.type "ValueError") [("WrongValue", true), ("InvalidText", true), ("InvalidName", true), ("InvalidView", true), ("InvalidKind", true), ("InvalidWish", true), ("InvalidIndex", true), ("InvalidNumber", true), ("InvalidLine", true), ("NotASetting", true), ("NotARun", true), ("NotARule", true), ("InvalidHouses", true), ("InvalidFails", true), ("InvalidReaders", true), ("InvalidPromises", true), ("InvalidEvents", true), ("InvalidOffers", true), ("InvalidDeeds", true), ("WrongName", false), ("UnknownName", false), ("NoAnswer", false), ("NoRule", false), ("NotReady", false), ("Broken", false), ("InUse", false), ("NothingToUndo", false)]) (g_LookupError : mg "LookupError" = none) (ieb_LookupError : IsEL K (.type "LookupError") [("WrongValue", false), ("InvalidText", false), ("InvalidName", false), ("InvalidView", false), ("InvalidKind", false), ("InvalidWish", false), ("InvalidIndex", false), ("InvalidNumber", false), ("InvalidLine", false), ("NotASetting", false), ("NotARun", false), ("NotARule", false), ("InvalidHouses", false), ("InvalidFails", false), ("InvalidReaders", false), ("InvalidPromises", false), ("InvalidEvents", false), ("InvalidOffers", false), ("InvalidDeeds", false), ("WrongName", true), ("UnknownName", true), ("NoAnswer", false), ("NoRule", false), ("NotReady", false), ("Broken", false), ("InUse", false), ("NothingToUndo", false)]) (g_ArithmeticError : mg "ArithmeticError" = none) (ieb_ArithmeticError : IsEL K (.type "ArithmeticError") [("WrongValue", false), ("InvalidText", false), ("InvalidName", false), ("InvalidView", false), ("InvalidKind", false), ("InvalidWish", false), ("InvalidIndex", false), ("InvalidNumber", false), ("InvalidLine", false), ("NotASetting", false), ("NotARun", false), ("NotARule", false), ("InvalidHouses", false), ("InvalidFails", false), ("InvalidReaders", false), ("InvalidPromises", false), ("InvalidEvents", false), ("InvalidOffers", false), ("InvalidDeeds", false), ("WrongName", false), ("UnknownName", false), ("NoAnswer", true), ("NoRule", true), ("NotReady", true), ("Broken", true), ("InUse", true), ("NothingToUndo", true)]) (g_range : mg "range" = none) : FnD P w K mg base 1 f (spP K 1 m_l_sorts) := by
  have sc := sc_l_sorts
  exact fn_pure (k := 0) (m := b_l_sorts) F sc_l_sorts (F.bindsN fun _ _ _ _ _ _ us hl => match us, hl with | [_], _ => rfl) fun cdv A outer s H E hr tk ps => ⟨_,
    (pdb_cons (pds_setO (i := 1) sc.nd rfl (.inr rfl) (pdo_lst (pda_cons (pd_isE ecs ie_InvalidText rfl g_isinstance rfl gx_InvalidText (dv 0)) (pda_cons (pd_isE ecs ie_InvalidName rfl g_isinstance rfl gx_InvalidName (dv 0)) (pda_cons (pd_isE ecs ie_InvalidView rfl g_isinstance rfl gx_InvalidView (dv 0)) pda_nil)))))
    (pdb_cons (pds_frz (i := 1) (pds_setO (i := 1) sc.nd rfl (.inr rfl) (pdo_addO (dv 1) (pd_lst (pda_cons (pd_isE ecs ie_InvalidKind rfl g_isinstance rfl gx_InvalidKind (dv 0)) (pda_cons (pd_isE ecs ie_InvalidWish rfl g_isinstance rfl gx_InvalidWish (dv 0)) (pda_cons (pd_isE ecs ie_InvalidIndex rfl g_isinstance rfl gx_InvalidIndex (dv 0)) pda_nil)))))))
    (pdb_cons (pds_frz (i := 1) (pds_setO (i := 1) sc.nd rfl (.inr rfl) (pdo_addO (dv 1) (pd_lst (pda_cons (pd_isE ecs ie_InvalidNumber rfl g_isinstance rfl gx_InvalidNumber (dv 0)) (pda_cons (pd_isE ecs ie_InvalidLine rfl g_isinstance rfl gx_InvalidLine (dv 0)) (pda_cons (pd_isE ecs ie_NotASetting rfl g_isinstance rfl gx_NotASetting (dv 0)) pda_nil)))))))
    (pdb_cons (pds_frz (i := 1) (pds_setO (i := 1) sc.nd rfl (.inr rfl) (pdo_addO (dv 1) (pd_lst (pda_cons (pd_isE ecs ie_NotARun rfl g_isinstance rfl gx_NotARun (dv 0)) (pda_cons (pd_isE ecs ie_NotARule rfl g_isinstance rfl gx_NotARule (dv 0)) pda_nil))))))
    (pdb_cons (pds_frz (i := 1) (pds_setO (i := 1) sc.nd rfl (.inr rfl) (pdo_addO (dv 1) (pd_lst (pda_cons (pd_isE ecs ie_InvalidHouses rfl g_isinstance rfl gx_InvalidHouses (dv 0)) (pda_cons (pd_isE ecs ie_InvalidFails rfl g_isinstance rfl gx_InvalidFails (dv 0)) (pda_cons (pd_isE ecs ie_InvalidReaders rfl g_isinstance rfl gx_InvalidReaders (dv 0)) pda_nil)))))))
    (pdb_cons (pds_frz (i := 1) (pds_setO (i := 1) sc.nd rfl (.inr rfl) (pdo_addO (dv 1) (pd_lst (pda_cons (pd_isE ecs ie_InvalidPromises rfl g_isinstance rfl gx_InvalidPromises (dv 0)) (pda_cons (pd_isE ecs ie_InvalidEvents rfl g_isinstance rfl gx_InvalidEvents (dv 0)) (pda_cons (pd_isE ecs ie_InvalidOffers rfl g_isinstance rfl gx_InvalidOffers (dv 0)) pda_nil)))))))
    (pdb_cons (pds_frz (i := 1) (pds_setO (i := 1) sc.nd rfl (.inr rfl) (pdo_addO (dv 1) (pd_lst (pda_cons (pd_isE ecs ie_InvalidDeeds rfl g_isinstance rfl gx_InvalidDeeds (dv 0)) (pda_cons (pd_isE ecs ie_UnknownName rfl g_isinstance rfl gx_UnknownName (dv 0)) (pda_cons (pd_isE ecs ie_NoRule rfl g_isinstance rfl gx_NoRule (dv 0)) pda_nil)))))))
    (pdb_cons (pds_frz (i := 1) (pds_setO (i := 1) sc.nd rfl (.inr rfl) (pdo_addO (dv 1) (pd_lst (pda_cons (pd_isE ecs ie_NotReady rfl g_isinstance rfl gx_NotReady (dv 0)) (pda_cons (pd_isE ecs ie_Broken rfl g_isinstance rfl gx_Broken (dv 0)) (pda_cons (pd_isE ecs ie_InUse rfl g_isinstance rfl gx_InUse (dv 0)) pda_nil)))))))
    (pdb_cons (pds_append (i := 1) (pnm 1) (pd_isE ecs ie_NothingToUndo rfl g_isinstance rfl gx_NothingToUndo (dv 0)))
    (pdb_cons (pds_set (i := 2) sc.nd rfl (.inr rfl) (pd_lst (pda_cons (pd_isE ecs ie_WrongValue rfl g_isinstance rfl gx_WrongValue (dv 0)) (pda_cons (pd_isE ecs ie_WrongName rfl g_isinstance rfl gx_WrongName (dv 0)) (pda_cons (pd_isE ecs ie_NoAnswer rfl g_isinstance rfl gx_NoAnswer (dv 0)) pda_nil)))))
    (pdb_cons (pds_set (i := 2) sc.nd rfl (.inr rfl) (pd_op op_addD opd_add (dv 2) (pd_lst (pda_cons (pd_isEb ecs ieb_ValueError rfl g_isinstance rfl g_ValueError bt_ValueError (dv 0)) (pda_cons (pd_isEb ecs ieb_LookupError rfl g_isinstance rfl g_LookupError bt_LookupError (dv 0)) (pda_cons (pd_isEb ecs ieb_ArithmeticError rfl g_isinstance rfl g_ArithmeticError bt_ArithmeticError (dv 0)) pda_nil))))))
    (pdb_one (pds_ret (pd_op op_addD opd_add (pd_lc (wk := false) (own := [("_law_k", 3)]) (g := (gName 3)) (tt := (tB (tOp (rGetD K) (tVar 1) (tVar 3)))) (te := (tVar 3)) rfl sc.nd (pdi_range1 rfl g_range (pda_cons pd_int pda_nil)) (blkOk_by (own := [("_law_k", 3)]) (N := N_l_sorts) (sc := defScope st_l_sorts) (by decide +kernel)) (fun _ _ _ _ _ => (pdg_name (i := 3) sc.nd rfl (.inl rfl))) (fun _ _ _ _ _ => (pdts_one (pdt_val (pd_ixO (i := 1) ix_getD opd_get (pnm 1) (dv 3))))) (fun _ _ _ _ _ => (dv 3))) (pd_lc (wk := false) (own := [("_law_k", 3)]) (g := (gName 3)) (tt := (tB (tOp (rGetD K) (tVar 2) (tVar 3)))) (te := (tOp (rAddD K) (tC (.int 50)) (tVar 3))) rfl sc.nd (pdi_range1 rfl g_range (pda_cons pd_int pda_nil)) (blkOk_by (own := [("_law_k", 3)]) (N := N_l_sorts) (sc := defScope st_l_sorts) (by decide +kernel)) (fun _ _ _ _ _ => (pdg_name (i := 3) sc.nd rfl (.inl rfl))) (fun _ _ _ _ _ => (pdts_one (pdt_val (pd_ix ix_getD opd_get (dv 2) (dv 3))))) (fun _ _ _ _ _ => (pd_op op_addD opd_add pd_int (dv 3))))))))))))))))))⟩
end
end Law_k01
namespace Law_k01
open PySem PySem.Spec PyProof.Rows L2 DD Mi
section
variable {P : Program} {w : World} {K : PySem.W.Frag} {mg : Str → Option Value} {base : Heap}
theorem sc_l_right : FnScope N_l_right ["_law_jar_here"] (defScope st_l_right) := ⟨rfl, rfl, rfl, by decide +kernel, rfl, by decide +kernel, by decide +kernel⟩
theorem ok_l_right {f : Addr} {fd : FuncData} (F : FunD K "_law_right" "_law_right" (defArgs st_l_right) (defBody st_l_right) (defScope st_l_right) [] [] f fd) (G_l_one_of : DefI P w K mg base 2 "_law_one_of" 1 m_l_one_of) (G_l_given_errors : DefP P w K mg base 3 "_law_given_errors" 1 m_l_given_errors) (g_enumerate : mg "enumerate" = none) (G_l_sorts : DefP P w K mg base 1 "_law_sorts" 1 m_l_sorts) (g_repr : mg "repr" = none) (ecs : ExCs K ["WrongValue", "InvalidText", "InvalidName", "InvalidView", "InvalidKind", "InvalidWish", "InvalidIndex", "InvalidNumber", "InvalidLine", "NotASetting", "NotARun", "NotARule", "InvalidHouses", "InvalidFails", "InvalidReaders", "InvalidPromises", "InvalidEvents", "InvalidOffers", "InvalidDeeds", "WrongName", "UnknownName", "NoAnswer", "NoRule", "NotReady", "Broken", "InUse", "NothingToUndo"]) (nf_given : NoFs K ["WrongValue", "InvalidText", "InvalidName", "InvalidView", "InvalidKind", "InvalidWish", "InvalidIndex", "InvalidNumber", "InvalidLine", "NotASetting", "NotARun", "NotARule", "InvalidHouses", "InvalidFails", "InvalidReaders", "InvalidPromises", "InvalidEvents", "InvalidOffers", "InvalidDeeds", "WrongName", "UnknownName", "NoAnswer", "NoRule", "NotReady", "Broken", "InUse", "NothingToUndo"] "given") (G_l_index_errors : DefP P w K mg base 3 "_law_index_errors" 1 m_l_index_errors) (nf_index : NoFs K ["WrongValue", "InvalidText", "InvalidName", "InvalidView", "InvalidKind", "InvalidWish", "InvalidIndex", "InvalidNumber", "InvalidLine", "NotASetting", "NotARun", "NotARule", "InvalidHouses", "InvalidFails", "InvalidReaders", "InvalidPromises", "InvalidEvents", "InvalidOffers", "InvalidDeeds", "WrongName", "UnknownName", "NoAnswer", "NoRule", "NotReady", "Broken", "InUse", "NothingToUndo"] "index") (gx_UnknownName : mg "UnknownName" = some (.ref (cadr K "UnknownName"))) (xf_UnknownName : ExF P w K mg base "UnknownName" "given") (xk_UnknownName : ExFK P w K mg base "UnknownName" "given") (gx_NotReady : mg "NotReady" = some (.ref (cadr K "NotReady"))) (xf_NotReady : ExF P w K mg base "NotReady" "given") (xk_NotReady : ExFK P w K mg base "NotReady" "given") (gx_Broken : mg "Broken" = some (.ref (cadr K "Broken"))) (xf_Broken : ExF P w K mg base "Broken" "index") (xk_Broken : ExFK P w K mg base "Broken" "index") (gx_InUse : mg "InUse" = some (.ref (cadr K "InUse"))) (xf_InUse : ExF P w K mg base "InUse" "index") (xk_InUse : ExFK P w K mg base "InUse" "index") : FnD P w K mg base 4 f (spI K 0 m_k01_l_right) := by
  have sc := sc_l_right
  exact fn_io (k := 3) (m := b_k01_l_right) F sc_l_right (F.bindsN fun _ _ _ _ _ _ us hl => match us, hl with | [_], _ => rfl) fun cdv A outer s H E hr tk ps => ⟨_,
    (pdb_cons (pds_set (i := 1) sc.nd rfl (.inl rfl) (pd_callI (i := 0) G_l_one_of (hr.mono (by decide)) rfl tk (pnm 0) (argN_cons argN_nil) (pda_cons (pd_lst (pda_cons pd_non (pda_cons pd_int (pda_cons (pd_un un_neg und_neg pd_int) (pda_cons pd_bl (pda_cons pd_str (pda_cons pd_str (pda_cons (pd_tup pda_nil) (pda_cons (pd_tup (pda_cons pd_int (pda_cons pd_int pda_nil))) (pda_cons (pd_lst pda_nil) (pda_cons (pd_lst (pda_cons pd_int pda_nil)) (pda_cons (pd_fz pdo_dnew) (pda_cons (pd_fz (pdo_disp (pdps_cons pd_str pd_int pdps_nil))) (pda_cons (pd_op op_pow opd_pow pd_int pd_int) (pda_cons (pd_tup (pda_cons pd_str (pda_cons pd_int pda_nil))) pda_nil))))))))))))))) pda_nil)))
    (pdb_cons (pds_for (wk := true) ps rfl (pdi_enum rfl g_enumerate (pda_cons (pd_call G_l_given_errors (hr.mono (by decide)) rfl tk (argN_cons argN_nil) (pda_cons (dv 1) pda_nil)) pda_nil)) (pdg_tup rfl (pdgs_cons (pdg_name (i := 2) sc.nd rfl (.inl rfl)) (pdgs_cons (pdg_name (i := 3) sc.nd rfl (.inl rfl)) pdgs_nil))) (pdb_one (pds_if (pdt_cmp (op_neD (u64 hr)) opd_ne (pd_lc (wk := false) (own := [("_law_e", 4)]) (g := (gName 4)) (tt := tYes) (te := (tOp (rAddD K) (tCallS (spP K 1 m_l_sorts) (WE W0) (tCons (tVar 4) tNil)) (tLst (tCons (tCB (rReprN K) (tCons (tFldE K ["WrongValue", "InvalidText", "InvalidName", "InvalidView", "InvalidKind", "InvalidWish", "InvalidIndex", "InvalidNumber", "InvalidLine", "NotASetting", "NotARun", "NotARule", "InvalidHouses", "InvalidFails", "InvalidReaders", "InvalidPromises", "InvalidEvents", "InvalidOffers", "InvalidDeeds", "WrongName", "UnknownName", "NoAnswer", "NoRule", "NotReady", "Broken", "InUse", "NothingToUndo"] "given" (tVar 4)) tNil)) tNil)))) rfl sc.nd (pdi_seq (dv 3)) (blkOk_by (own := [("_law_e", 4)]) (N := N_l_right) (sc := defScope st_l_right) (by decide +kernel)) (fun _ _ _ _ _ => (pdg_name (i := 4) sc.nd rfl (.inl rfl))) (fun _ _ _ _ _ => pdts_nil) (fun _ _ _ _ _ => (pd_op op_addD opd_add (pd_call G_l_sorts (hr.mono (by decide)) rfl tk0 (argN_cons argN_nil) (pda_cons (dv 4) pda_nil)) (pd_lst (pda_cons (pd_callB (call_reprN hr.gd (u64 hr)) cd_reprN rfl g_repr bt_repr (pda_cons (pd_fldE ecs nf_given (dv 4)) pda_nil)) pda_nil))))) (pd_op op_repL opd_repL (pd_lst (pda_cons (pd_lst (pda_cons (dv 2) (pda_cons pd_int (pda_cons pd_int (pda_cons (pd_callB (call_reprN hr.gd (u64 hr)) cd_reprN rfl g_repr bt_repr (pda_cons (dv 1) pda_nil)) pda_nil))))) pda_nil)) pd_int)) (pdb_one (pds_ret pd_bl)) pdb_nil)))
    (pdb_cons (pds_for (wk := true) ps rfl (pdi_enum rfl g_enumerate (pda_cons (pd_call G_l_index_errors (hr.mono (by decide)) rfl tk (argN_cons argN_nil) (pda_cons (dv 1) pda_nil)) pda_nil)) (pdg_tup rfl (pdgs_cons (pdg_name (i := 2) sc.nd rfl (.inl rfl)) (pdgs_cons (pdg_name (i := 3) sc.nd rfl (.inl rfl)) pdgs_nil))) (pdb_one (pds_if (pdt_cmp (op_neD (u64 hr)) opd_ne (pd_lc (wk := false) (own := [("_law_e", 4)]) (g := (gName 4)) (tt := tYes) (te := (tOp (rAddD K) (tCallS (spP K 1 m_l_sorts) (WE W0) (tCons (tVar 4) tNil)) (tLst (tCons (tCB (rReprN K) (tCons (tFldE K ["WrongValue", "InvalidText", "InvalidName", "InvalidView", "InvalidKind", "InvalidWish", "InvalidIndex", "InvalidNumber", "InvalidLine", "NotASetting", "NotARun", "NotARule", "InvalidHouses", "InvalidFails", "InvalidReaders", "InvalidPromises", "InvalidEvents", "InvalidOffers", "InvalidDeeds", "WrongName", "UnknownName", "NoAnswer", "NoRule", "NotReady", "Broken", "InUse", "NothingToUndo"] "index" (tVar 4)) tNil)) tNil)))) rfl sc.nd (pdi_seq (dv 3)) (blkOk_by (own := [("_law_e", 4)]) (N := N_l_right) (sc := defScope st_l_right) (by decide +kernel)) (fun _ _ _ _ _ => (pdg_name (i := 4) sc.nd rfl (.inl rfl))) (fun _ _ _ _ _ => pdts_nil) (fun _ _ _ _ _ => (pd_op op_addD opd_add (pd_call G_l_sorts (hr.mono (by decide)) rfl tk0 (argN_cons argN_nil) (pda_cons (dv 4) pda_nil)) (pd_lst (pda_cons (pd_callB (call_reprN hr.gd (u64 hr)) cd_reprN rfl g_repr bt_repr (pda_cons (pd_fldE ecs nf_index (dv 4)) pda_nil)) pda_nil))))) (pd_op op_repL opd_repL (pd_lst (pda_cons (pd_lst (pda_cons (pd_op op_addD opd_add pd_int (dv 2)) (pda_cons pd_int (pda_cons pd_int (pda_cons (pd_callB (call_reprN hr.gd (u64 hr)) cd_reprN rfl g_repr bt_repr (pda_cons (dv 1) pda_nil)) pda_nil))))) pda_nil)) pd_int)) (pdb_one (pds_ret pd_bl)) pdb_nil)))
    (pdb_cons (pds_set (i := 3) sc.nd rfl (.inl rfl) (pd_lst (pda_cons (pd_exn1 xf_UnknownName gx_UnknownName (hr.mono (by decide)) tk rfl (pda_cons (dv 1) pda_nil)) (pda_cons (pd_exn1K xk_UnknownName gx_UnknownName (hr.mono (by decide)) tk rfl (pdk_cons (dv 1) pdk_nil)) pda_nil))))
    (pdb_cons (pds_if (pdt_cmp (op_neD (u64 hr)) opd_ne (pd_lc (wk := false) (own := [("_law_e", 4)]) (g := (gName 4)) (tt := tYes) (te := (tOp (rAddD K) (tCallS (spP K 1 m_l_sorts) (WE W0) (tCons (tVar 4) tNil)) (tLst (tCons (tCB (rReprN K) (tCons (tFldE K ["WrongValue", "InvalidText", "InvalidName", "InvalidView", "InvalidKind", "InvalidWish", "InvalidIndex", "InvalidNumber", "InvalidLine", "NotASetting", "NotARun", "NotARule", "InvalidHouses", "InvalidFails", "InvalidReaders", "InvalidPromises", "InvalidEvents", "InvalidOffers", "InvalidDeeds", "WrongName", "UnknownName", "NoAnswer", "NoRule", "NotReady", "Broken", "InUse", "NothingToUndo"] "given" (tVar 4)) tNil)) tNil)))) rfl sc.nd (pdi_seq (dv 3)) (blkOk_by (own := [("_law_e", 4)]) (N := N_l_right) (sc := defScope st_l_right) (by decide +kernel)) (fun _ _ _ _ _ => (pdg_name (i := 4) sc.nd rfl (.inl rfl))) (fun _ _ _ _ _ => pdts_nil) (fun _ _ _ _ _ => (pd_op op_addD opd_add (pd_call G_l_sorts (hr.mono (by decide)) rfl tk0 (argN_cons argN_nil) (pda_cons (dv 4) pda_nil)) (pd_lst (pda_cons (pd_callB (call_reprN hr.gd (u64 hr)) cd_reprN rfl g_repr bt_repr (pda_cons (pd_fldE ecs nf_given (dv 4)) pda_nil)) pda_nil))))) (pd_op op_repL opd_repL (pd_lst (pda_cons (pd_lst (pda_cons pd_int (pda_cons pd_int (pda_cons pd_int (pda_cons (pd_callB (call_reprN hr.gd (u64 hr)) cd_reprN rfl g_repr bt_repr (pda_cons (dv 1) pda_nil)) pda_nil))))) pda_nil)) pd_int)) (pdb_one (pds_ret pd_bl)) pdb_nil)
    (pdb_cons (pds_set (i := 3) sc.nd rfl (.inl rfl) (pd_lst (pda_cons (pd_exn1 xf_NotReady gx_NotReady (hr.mono (by decide)) tk rfl (pda_cons (dv 1) pda_nil)) (pda_cons (pd_exn1K xk_NotReady gx_NotReady (hr.mono (by decide)) tk rfl (pdk_cons (dv 1) pdk_nil)) pda_nil))))
    (pdb_cons (pds_if (pdt_cmp (op_neD (u64 hr)) opd_ne (pd_lc (wk := false) (own := [("_law_e", 4)]) (g := (gName 4)) (tt := tYes) (te := (tOp (rAddD K) (tCallS (spP K 1 m_l_sorts) (WE W0) (tCons (tVar 4) tNil)) (tLst (tCons (tCB (rReprN K) (tCons (tFldE K ["WrongValue", "InvalidText", "InvalidName", "InvalidView", "InvalidKind", "InvalidWish", "InvalidIndex", "InvalidNumber", "InvalidLine", "NotASetting", "NotARun", "NotARule", "InvalidHouses", "InvalidFails", "InvalidReaders", "InvalidPromises", "InvalidEvents", "InvalidOffers", "InvalidDeeds", "WrongName", "UnknownName", "NoAnswer", "NoRule", "NotReady", "Broken", "InUse", "NothingToUndo"] "given" (tVar 4)) tNil)) tNil)))) rfl sc.nd (pdi_seq (dv 3)) (blkOk_by (own := [("_law_e", 4)]) (N := N_l_right) (sc := defScope st_l_right) (by decide +kernel)) (fun _ _ _ _ _ => (pdg_name (i := 4) sc.nd rfl (.inl rfl))) (fun _ _ _ _ _ => pdts_nil) (fun _ _ _ _ _ => (pd_op op_addD opd_add (pd_call G_l_sorts (hr.mono (by decide)) rfl tk0 (argN_cons argN_nil) (pda_cons (dv 4) pda_nil)) (pd_lst (pda_cons (pd_callB (call_reprN hr.gd (u64 hr)) cd_reprN rfl g_repr bt_repr (pda_cons (pd_fldE ecs nf_given (dv 4)) pda_nil)) pda_nil))))) (pd_op op_repL opd_repL (pd_lst (pda_cons (pd_lst (pda_cons pd_int (pda_cons pd_int (pda_cons pd_int (pda_cons (pd_callB (call_reprN hr.gd (u64 hr)) cd_reprN rfl g_repr bt_repr (pda_cons (dv 1) pda_nil)) pda_nil))))) pda_nil)) pd_int)) (pdb_one (pds_ret pd_bl)) pdb_nil)
    (pdb_cons (pds_for (wk := false) ps rfl (pdi_seq (pd_lst (pda_cons (pd_tup (pda_cons pd_int (pda_cons (pd_lst (pda_cons (pd_exn1 xf_Broken gx_Broken (hr.mono (by decide)) tk rfl (pda_cons (dv 1) pda_nil)) (pda_cons (pd_exn1K xk_Broken gx_Broken (hr.mono (by decide)) tk rfl (pdk_cons (dv 1) pdk_nil)) pda_nil))) pda_nil))) (pda_cons (pd_tup (pda_cons pd_int (pda_cons (pd_lst (pda_cons (pd_exn1 xf_InUse gx_InUse (hr.mono (by decide)) tk rfl (pda_cons (dv 1) pda_nil)) (pda_cons (pd_exn1K xk_InUse gx_InUse (hr.mono (by decide)) tk rfl (pdk_cons (dv 1) pdk_nil)) pda_nil))) pda_nil))) pda_nil)))) (pdg_tup rfl (pdgs_cons (pdg_name (i := 2) sc.nd rfl (.inl rfl)) (pdgs_cons (pdg_name (i := 3) sc.nd rfl (.inl rfl)) pdgs_nil))) (pdb_one (pds_if (pdt_cmp (op_neD (u64 hr)) opd_ne (pd_lc (wk := false) (own := [("_law_e", 4)]) (g := (gName 4)) (tt := tYes) (te := (tOp (rAddD K) (tCallS (spP K 1 m_l_sorts) (WE W0) (tCons (tVar 4) tNil)) (tLst (tCons (tCB (rReprN K) (tCons (tFldE K ["WrongValue", "InvalidText", "InvalidName", "InvalidView", "InvalidKind", "InvalidWish", "InvalidIndex", "InvalidNumber", "InvalidLine", "NotASetting", "NotARun", "NotARule", "InvalidHouses", "InvalidFails", "InvalidReaders", "InvalidPromises", "InvalidEvents", "InvalidOffers", "InvalidDeeds", "WrongName", "UnknownName", "NoAnswer", "NoRule", "NotReady", "Broken", "InUse", "NothingToUndo"] "index" (tVar 4)) tNil)) tNil)))) rfl sc.nd (pdi_seq (dv 3)) (blkOk_by (own := [("_law_e", 4)]) (N := N_l_right) (sc := defScope st_l_right) (by decide +kernel)) (fun _ _ _ _ _ => (pdg_name (i := 4) sc.nd rfl (.inl rfl))) (fun _ _ _ _ _ => pdts_nil) (fun _ _ _ _ _ => (pd_op op_addD opd_add (pd_call G_l_sorts (hr.mono (by decide)) rfl tk0 (argN_cons argN_nil) (pda_cons (dv 4) pda_nil)) (pd_lst (pda_cons (pd_callB (call_reprN hr.gd (u64 hr)) cd_reprN rfl g_repr bt_repr (pda_cons (pd_fldE ecs nf_index (dv 4)) pda_nil)) pda_nil))))) (pd_op op_repL opd_repL (pd_lst (pda_cons (pd_lst (pda_cons (dv 2) (pda_cons pd_int (pda_cons pd_int (pda_cons (pd_callB (call_reprN hr.gd (u64 hr)) cd_reprN rfl g_repr bt_repr (pda_cons (dv 1) pda_nil)) pda_nil))))) pda_nil)) pd_int)) (pdb_one (pds_ret pd_bl)) pdb_nil)))
    (pdb_one (pds_ret pd_bl))))))))))⟩
end
end Law_k01
namespace Law_k01
open PySem PySem.Spec PyProof.Rows L2 DD Mi
section
variable {P : Program} {w : World} {K : PySem.W.Frag} {mg : Str → Option Value} {base : Heap}
theorem sc_law : FnScope N_law ["_law_cells"] (defScope st_law) := ⟨rfl, rfl, rfl, by decide +kernel, rfl, by decide +kernel, by decide +kernel⟩
theorem ok_law {f : Addr} {fd : FuncData} (F : FunD K "law" "law" (defArgs st_law) (defBody st_law) (defScope st_law) [] [] f fd) {t_MOST_HOUSES : Tok} (g_MOST_HOUSES : mg "MOST_HOUSES" = some (.int 8 t_MOST_HOUSES)) {t_MOST_FAILS : Tok} (g_MOST_FAILS : mg "MOST_FAILS" = some (.int 8 t_MOST_FAILS)) {t_MOST_READERS : Tok} (g_MOST_READERS : mg "MOST_READERS" = some (.int 5 t_MOST_READERS)) {t_MOST_LEVELS : Tok} (g_MOST_LEVELS : mg "MOST_LEVELS" = some (.int 5 t_MOST_LEVELS)) {t_MOST_LEVEL : Tok} (g_MOST_LEVEL : mg "MOST_LEVEL" = some (.int 8 t_MOST_LEVEL)) {t_MOST_OFFERS : Tok} (g_MOST_OFFERS : mg "MOST_OFFERS" = some (.int 6 t_MOST_OFFERS)) {t_MOST_NUMBER : Tok} (g_MOST_NUMBER : mg "MOST_NUMBER" = some (.int 1000000000000000000000000000000 t_MOST_NUMBER)) {t_WRITER : Tok} (g_WRITER : mg "WRITER" = some (.str "w" t_WRITER)) (g_repr : mg "repr" = none) (gx_NoRule : mg "NoRule" = some (.ref (cadr K "NoRule"))) (xr_NoRule : ExcK K "NoRule" .a) (gx_NothingToUndo : mg "NothingToUndo" = some (.ref (cadr K "NothingToUndo"))) (xr_NothingToUndo : ExcK K "NothingToUndo" .a) (gx_WrongValue : mg "WrongValue" = some (.ref (cadr K "WrongValue"))) (xr_WrongValue : ExcK K "WrongValue" .v) (gx_WrongName : mg "WrongName" = some (.ref (cadr K "WrongName"))) (xr_WrongName : ExcK K "WrongName" .l) (gx_NoAnswer : mg "NoAnswer" = some (.ref (cadr K "NoAnswer"))) (xr_NoAnswer : ExcK K "NoAnswer" .a) (G_l_sorts : DefP P w K mg base 1 "_law_sorts" 1 m_l_sorts) (g_all : mg "all" = none) (g_len : mg "len" = none) (g_min : mg "min" = none) (g_max : mg "max" = none) (g_range : mg "range" = none) (G_l_right : DefI P w K mg base 4 "_law_right" 0 m_k01_l_right) (G_l_jar : DefP P w K mg base 1 "_law_jar" 2 m_l_jar) : FnG P w K mg base (L2.CX P w) 5 f fd ["_law_cells"] (spP K 1 m_k01_law) := by
  have sc := sc_law
  exact fnG_pure (P := P) (w := w) (base := base) (mg := mg) (N := N_law) (ps := ["_law_cells"]) (k := 4) (m := b_k01_law) F sc_law fun cdv A outer s H E hr tk ps => ⟨_,
    (pdb_cons (pds_set (i := 1) sc.nd rfl (.inl rfl) (pd_lst (pda_cons (pd_globi rfl g_MOST_HOUSES) (pda_cons (pd_globi rfl g_MOST_FAILS) (pda_cons (pd_globi rfl g_MOST_READERS) (pda_cons (pd_globi rfl g_MOST_LEVELS) (pda_cons (pd_globi rfl g_MOST_LEVEL) (pda_cons (pd_globi rfl g_MOST_OFFERS) (pda_cons (pd_globi rfl g_MOST_NUMBER) (pda_cons (pd_globs rfl g_WRITER) pda_nil))))))))))
    (pdb_cons (pds_if (pdt_cmp (op_neD (u64 hr)) opd_ne (pd_callB (call_reprN hr.gd (u64 hr)) cd_reprN rfl g_repr bt_repr (pda_cons (dv 1) pda_nil)) (pd_callB (call_reprN hr.gd (u64 hr)) cd_reprN rfl g_repr bt_repr (pda_cons (pd_lst (pda_cons pd_int (pda_cons pd_int (pda_cons pd_int (pda_cons pd_int (pda_cons pd_int (pda_cons pd_int (pda_cons (pd_op op_pow opd_pow pd_int pd_int) (pda_cons pd_str pda_nil))))))))) pda_nil))) (pdb_one (pds_ret pd_bl)) pdb_nil)
    (pdb_cons (pds_set (i := 2) sc.nd rfl (.inl rfl) (pd_lst (pda_cons (pd_exn0 xr_NoRule gx_NoRule rfl) (pda_cons (pd_exn0 xr_NothingToUndo gx_NothingToUndo rfl) (pda_cons (pd_exn0 xr_WrongValue gx_WrongValue rfl) (pda_cons (pd_exn0 xr_WrongName gx_WrongName rfl) (pda_cons (pd_exn0 xr_NoAnswer gx_NoAnswer rfl) pda_nil)))))))
    (pdb_cons (pds_if (pdt_cmp (op_neD (u64 hr)) opd_ne (pd_lc (wk := false) (own := [("_law_e", 3)]) (g := (gName 3)) (tt := tYes) (te := (tCallS (spP K 1 m_l_sorts) (WE W0) (tCons (tVar 3) tNil))) rfl sc.nd (pdi_seq (dv 2)) (blkOk_by (own := [("_law_e", 3)]) (N := N_law) (sc := defScope st_law) (by decide +kernel)) (fun _ _ _ _ _ => (pdg_name (i := 3) sc.nd rfl (.inl rfl))) (fun _ _ _ _ _ => pdts_nil) (fun _ _ _ _ _ => (pd_call G_l_sorts (hr.mono (by decide)) rfl tk0 (argN_cons argN_nil) (pda_cons (dv 3) pda_nil)))) (pd_lst (pda_cons (pd_lst (pda_cons pd_int (pda_cons pd_int (pda_cons pd_int pda_nil)))) (pda_cons (pd_lst (pda_cons pd_int (pda_cons pd_int (pda_cons pd_int pda_nil)))) (pda_cons (pd_lst (pda_cons pd_int (pda_cons pd_int pda_nil))) (pda_cons (pd_lst (pda_cons pd_int (pda_cons pd_int pda_nil))) (pda_cons (pd_lst (pda_cons pd_int (pda_cons pd_int pda_nil))) pda_nil))))))) (pdb_one (pds_ret pd_bl)) pdb_nil)
    (pdb_one (pds_ret (pd_callB (cr_all rfl) cd_all rfl g_all bt_all (pda_cons (pd_lc (wk := false) (own := [("_law_turn", 4)]) (g := (gName 4)) (tt := tYes) (te := (tCallS (spI K 0 m_k01_l_right) (WE W0) (tCons (tCallS (spP K 2 m_l_jar) (WE W0) (tCons (tVar 0) (tCons (tVar 4) tNil))) tNil))) rfl sc.nd (pdi_range1 rfl g_range (pda_cons (pd_callB (call_max2 rfl) cd_max2 rfl g_max bt_max (pda_cons pd_int (pda_cons (pd_callB (call_min2 rfl) cd_min2 rfl g_min bt_min (pda_cons (pd_callB call_len cd_len rfl g_len bt_len (pda_cons (dv 0) pda_nil)) (pda_cons pd_int pda_nil))) pda_nil))) pda_nil)) (blkOk_by (own := [("_law_turn", 4)]) (N := N_law) (sc := defScope st_law) (by decide +kernel)) (fun _ _ _ _ _ => (pdg_name (i := 4) sc.nd rfl (.inl rfl))) (fun _ _ _ _ _ => pdts_nil) (fun _ _ _ _ _ => (pd_callE G_l_right (hr.mono (by decide)) rfl tk0 (pdo_call G_l_jar (hr.mono (by decide)) rfl tk0 (argN_cons (argN_cons argN_nil)) (pda_cons (dv 0) (pda_cons (dv 4) pda_nil))) argN_nil pda_nil))) pda_nil))))))))⟩
end
end Law_k01
namespace Law_k01
open PySem PySem.Spec PyProof.Rows L2 DD Mi
theorem sc_InvalidText_init : FnScope N_InvalidText_init ["self", "given"] (defScope st_InvalidText_init) := ⟨rfl, rfl, rfl, by decide +kernel, rfl, by decide +kernel, by decide +kernel⟩
theorem sc_InvalidName_init : FnScope N_InvalidName_init ["self", "given"] (defScope st_InvalidName_init) := ⟨rfl, rfl, rfl, by decide +kernel, rfl, by decide +kernel, by decide +kernel⟩
theorem sc_InvalidView_init : FnScope N_InvalidView_init ["self", "given"] (defScope st_InvalidView_init) := ⟨rfl, rfl, rfl, by decide +kernel, rfl, by decide +kernel, by decide +kernel⟩
theorem sc_InvalidKind_init : FnScope N_InvalidKind_init ["self", "given"] (defScope st_InvalidKind_init) := ⟨rfl, rfl, rfl, by decide +kernel, rfl, by decide +kernel, by decide +kernel⟩
theorem sc_InvalidWish_init : FnScope N_InvalidWish_init ["self", "given"] (defScope st_InvalidWish_init) := ⟨rfl, rfl, rfl, by decide +kernel, rfl, by decide +kernel, by decide +kernel⟩
theorem sc_InvalidIndex_init : FnScope N_InvalidIndex_init ["self", "given"] (defScope st_InvalidIndex_init) := ⟨rfl, rfl, rfl, by decide +kernel, rfl, by decide +kernel, by decide +kernel⟩
theorem sc_InvalidNumber_init : FnScope N_InvalidNumber_init ["self", "given"] (defScope st_InvalidNumber_init) := ⟨rfl, rfl, rfl, by decide +kernel, rfl, by decide +kernel, by decide +kernel⟩
theorem sc_InvalidLine_init : FnScope N_InvalidLine_init ["self", "given"] (defScope st_InvalidLine_init) := ⟨rfl, rfl, rfl, by decide +kernel, rfl, by decide +kernel, by decide +kernel⟩
theorem sc_NotASetting_init : FnScope N_NotASetting_init ["self", "given"] (defScope st_NotASetting_init) := ⟨rfl, rfl, rfl, by decide +kernel, rfl, by decide +kernel, by decide +kernel⟩
theorem sc_NotARun_init : FnScope N_NotARun_init ["self", "given"] (defScope st_NotARun_init) := ⟨rfl, rfl, rfl, by decide +kernel, rfl, by decide +kernel, by decide +kernel⟩
theorem sc_NotARule_init : FnScope N_NotARule_init ["self", "given"] (defScope st_NotARule_init) := ⟨rfl, rfl, rfl, by decide +kernel, rfl, by decide +kernel, by decide +kernel⟩
theorem sc_InvalidHouses_init : FnScope N_InvalidHouses_init ["self", "index"] (defScope st_InvalidHouses_init) := ⟨rfl, rfl, rfl, by decide +kernel, rfl, by decide +kernel, by decide +kernel⟩
theorem sc_InvalidFails_init : FnScope N_InvalidFails_init ["self", "index"] (defScope st_InvalidFails_init) := ⟨rfl, rfl, rfl, by decide +kernel, rfl, by decide +kernel, by decide +kernel⟩
theorem sc_InvalidReaders_init : FnScope N_InvalidReaders_init ["self", "index"] (defScope st_InvalidReaders_init) := ⟨rfl, rfl, rfl, by decide +kernel, rfl, by decide +kernel, by decide +kernel⟩
theorem sc_InvalidPromises_init : FnScope N_InvalidPromises_init ["self", "index"] (defScope st_InvalidPromises_init) := ⟨rfl, rfl, rfl, by decide +kernel, rfl, by decide +kernel, by decide +kernel⟩
theorem sc_InvalidEvents_init : FnScope N_InvalidEvents_init ["self", "index"] (defScope st_InvalidEvents_init) := ⟨rfl, rfl, rfl, by decide +kernel, rfl, by decide +kernel, by decide +kernel⟩
theorem sc_InvalidOffers_init : FnScope N_InvalidOffers_init ["self", "index"] (defScope st_InvalidOffers_init) := ⟨rfl, rfl, rfl, by decide +kernel, rfl, by decide +kernel, by decide +kernel⟩
theorem sc_InvalidDeeds_init : FnScope N_InvalidDeeds_init ["self", "index"] (defScope st_InvalidDeeds_init) := ⟨rfl, rfl, rfl, by decide +kernel, rfl, by decide +kernel, by decide +kernel⟩
theorem sc_UnknownName_init : FnScope N_UnknownName_init ["self", "given"] (defScope st_UnknownName_init) := ⟨rfl, rfl, rfl, by decide +kernel, rfl, by decide +kernel, by decide +kernel⟩
theorem sc_NotReady_init : FnScope N_NotReady_init ["self", "given"] (defScope st_NotReady_init) := ⟨rfl, rfl, rfl, by decide +kernel, rfl, by decide +kernel, by decide +kernel⟩
theorem sc_Broken_init : FnScope N_Broken_init ["self", "index"] (defScope st_Broken_init) := ⟨rfl, rfl, rfl, by decide +kernel, rfl, by decide +kernel, by decide +kernel⟩
theorem sc_InUse_init : FnScope N_InUse_init ["self", "index"] (defScope st_InUse_init) := ⟨rfl, rfl, rfl, by decide +kernel, rfl, by decide +kernel, by decide +kernel⟩
theorem facts {P : Program} {w : World} {K : PySem.W.Frag} {h : Heap} {mg : Str → Option Value} (X : K.In h) (G : h.Ns mainGlobals mg) (c : SaysX faL fnL K) :
    ∃ fa fd, mg "law" = some (.ref fa) ∧ (∀ (s : Shared) (v : Value), BindsTo s fd ⟨[v], []⟩ [("_law_cells", v)]) ∧ ∀ base : Heap, FnG P w K mg base (L2.CX P w) 5 fa fd ["_law_cells"] (spP K 1 m_k01_law) := by
  have g_len := He.free_ok X G (c.fact 8 (b := faB (.free "len")) rfl)
  have g_int := He.free_ok X G (c.fact 9 (b := faB (.free "int")) rfl)
  have g_abs := He.free_ok X G (c.fact 10 (b := faB (.free "abs")) rfl)
  have g_divmod := He.free_ok X G (c.fact 11 (b := faB (.free "divmod")) rfl)
  have g_isinstance := He.free_ok X G (c.fact 12 (b := faB (.free "isinstance")) rfl)
  have g_ValueError := He.free_ok X G (c.fact 13 (b := faB (.free "ValueError")) rfl)
  have g_LookupError := He.free_ok X G (c.fact 14 (b := faB (.free "LookupError")) rfl)
  have g_ArithmeticError := He.free_ok X G (c.fact 15 (b := faB (.free "ArithmeticError")) rfl)
  have g_range := He.free_ok X G (c.fact 16 (b := faB (.free "range")) rfl)
  have g_enumerate := He.free_ok X G (c.fact 17 (b := faB (.free "enumerate")) rfl)
  have g_repr := He.free_ok X G (c.fact 18 (b := faB (.free "repr")) rfl)
  have g_all := He.free_ok X G (c.fact 19 (b := faB (.free "all")) rfl)
  have g_min := He.free_ok X G (c.fact 20 (b := faB (.free "min")) rfl)
  have g_max := He.free_ok X G (c.fact 21 (b := faB (.free "max")) rfl)
  obtain ⟨t_MOST_HOUSES, g_MOST_HOUSES⟩ := He.int_ok X G (c.fact 22 (b := faB (.int "MOST_HOUSES" 8)) rfl)
  obtain ⟨t_MOST_FAILS, g_MOST_FAILS⟩ := He.int_ok X G (c.fact 23 (b := faB (.int "MOST_FAILS" 8)) rfl)
  obtain ⟨t_MOST_READERS, g_MOST_READERS⟩ := He.int_ok X G (c.fact 24 (b := faB (.int "MOST_READERS" 5)) rfl)
  obtain ⟨t_MOST_LEVELS, g_MOST_LEVELS⟩ := He.int_ok X G (c.fact 25 (b := faB (.int "MOST_LEVELS" 5)) rfl)
  obtain ⟨t_MOST_LEVEL, g_MOST_LEVEL⟩ := He.int_ok X G (c.fact 26 (b := faB (.int "MOST_LEVEL" 8)) rfl)
  obtain ⟨t_MOST_OFFERS, g_MOST_OFFERS⟩ := He.int_ok X G (c.fact 27 (b := faB (.int "MOST_OFFERS" 6)) rfl)
  obtain ⟨t_MOST_NUMBER, g_MOST_NUMBER⟩ := He.int_ok X G (c.fact 28 (b := faB (.int "MOST_NUMBER" 1000000000000000000000000000000)) rfl)
  obtain ⟨t_WRITER, g_WRITER⟩ := He.str_ok X G (c.fact 29 (b := faB (.str "WRITER" "w")) rfl)
  have xr_NoRule := excB_ok (c.fact 30 (b := excB "NoRule" .a) rfl)
  have xr_NothingToUndo := excB_ok (c.fact 31 (b := excB "NothingToUndo" .a) rfl)
  have xr_WrongValue := excB_ok (c.fact 32 (b := excB "WrongValue" .v) rfl)
  have xr_WrongName := excB_ok (c.fact 33 (b := excB "WrongName" .l) rfl)
  have xr_NoAnswer := excB_ok (c.fact 34 (b := excB "NoAnswer" .a) rfl)
  have xo_InvalidText := oexfB_ok (c.fact 35 (b := oexfB "InvalidText" "given") rfl)
  have xo_InvalidName := oexfB_ok (c.fact 36 (b := oexfB "InvalidName" "given") rfl)
  have xo_InvalidView := oexfB_ok (c.fact 37 (b := oexfB "InvalidView" "given") rfl)
  have xo_InvalidKind := oexfB_ok (c.fact 38 (b := oexfB "InvalidKind" "given") rfl)
  have xo_InvalidWish := oexfB_ok (c.fact 39 (b := oexfB "InvalidWish" "given") rfl)
  have xo_InvalidIndex := oexfB_ok (c.fact 40 (b := oexfB "InvalidIndex" "given") rfl)
  have xo_InvalidNumber := oexfB_ok (c.fact 41 (b := oexfB "InvalidNumber" "given") rfl)
  have xo_InvalidLine := oexfB_ok (c.fact 42 (b := oexfB "InvalidLine" "given") rfl)
  have xo_NotASetting := oexfB_ok (c.fact 43 (b := oexfB "NotASetting" "given") rfl)
  have xo_NotARun := oexfB_ok (c.fact 44 (b := oexfB "NotARun" "given") rfl)
  have xo_NotARule := oexfB_ok (c.fact 45 (b := oexfB "NotARule" "given") rfl)
  have xo_InvalidHouses := oexfB_ok (c.fact 46 (b := oexfB "InvalidHouses" "index") rfl)
  have xo_InvalidFails := oexfB_ok (c.fact 47 (b := oexfB "InvalidFails" "index") rfl)
  have xo_InvalidReaders := oexfB_ok (c.fact 48 (b := oexfB "InvalidReaders" "index") rfl)
  have xo_InvalidPromises := oexfB_ok (c.fact 49 (b := oexfB "InvalidPromises" "index") rfl)
  have xo_InvalidEvents := oexfB_ok (c.fact 50 (b := oexfB "InvalidEvents" "index") rfl)
  have xo_InvalidOffers := oexfB_ok (c.fact 51 (b := oexfB "InvalidOffers" "index") rfl)
  have xo_InvalidDeeds := oexfB_ok (c.fact 52 (b := oexfB "InvalidDeeds" "index") rfl)
  have xo_UnknownName := oexfB_ok (c.fact 53 (b := oexfB "UnknownName" "given") rfl)
  have xo_NotReady := oexfB_ok (c.fact 54 (b := oexfB "NotReady" "given") rfl)
  have xo_Broken := oexfB_ok (c.fact 55 (b := oexfB "Broken" "index") rfl)
  have xo_InUse := oexfB_ok (c.fact 56 (b := oexfB "InUse" "index") rfl)
  obtain ⟨fd_InvalidText_init, F_InvalidText_init⟩ := c.def_ 8 (d := ⟨maL "InvalidText" "__init__", "__init__", "InvalidText.__init__", st_InvalidText_init⟩) rfl
  have xf_InvalidText : ∀ base : Heap, ExF P w K mg base "InvalidText" "given" := fun base => exf_ok (N := N_InvalidText_init) xo_InvalidText F_InvalidText_init sc_InvalidText_init (F_InvalidText_init.bindsN fun _ _ _ _ _ _ us hl => match us, hl with | [_, _], _ => rfl) rfl rfl (.inl rfl) (.inl rfl) (by decide) (by decide) (by decide) (by decide) (fun _ => rfl)
  obtain ⟨fd_InvalidName_init, F_InvalidName_init⟩ := c.def_ 9 (d := ⟨maL "InvalidName" "__init__", "__init__", "InvalidName.__init__", st_InvalidName_init⟩) rfl
  have xf_InvalidName : ∀ base : Heap, ExF P w K mg base "InvalidName" "given" := fun base => exf_ok (N := N_InvalidName_init) xo_InvalidName F_InvalidName_init sc_InvalidName_init (F_InvalidName_init.bindsN fun _ _ _ _ _ _ us hl => match us, hl with | [_, _], _ => rfl) rfl rfl (.inl rfl) (.inl rfl) (by decide) (by decide) (by decide) (by decide) (fun _ => rfl)
  obtain ⟨fd_InvalidView_init, F_InvalidView_init⟩ := c.def_ 10 (d := ⟨maL "InvalidView" "__init__", "__init__", "InvalidView.__init__", st_InvalidView_init⟩) rfl
  have xf_InvalidView : ∀ base : Heap, ExF P w K mg base "InvalidView" "given" := fun base => exf_ok (N := N_InvalidView_init) xo_InvalidView F_InvalidView_init sc_InvalidView_init (F_InvalidView_init.bindsN fun _ _ _ _ _ _ us hl => match us, hl with | [_, _], _ => rfl) rfl rfl (.inl rfl) (.inl rfl) (by decide) (by decide) (by decide) (by decide) (fun _ => rfl)
  obtain ⟨fd_InvalidKind_init, F_InvalidKind_init⟩ := c.def_ 11 (d := ⟨maL "InvalidKind" "__init__", "__init__", "InvalidKind.__init__", st_InvalidKind_init⟩) rfl
  have xf_InvalidKind : ∀ base : Heap, ExF P w K mg base "InvalidKind" "given" := fun base => exf_ok (N := N_InvalidKind_init) xo_InvalidKind F_InvalidKind_init sc_InvalidKind_init (F_InvalidKind_init.bindsN fun _ _ _ _ _ _ us hl => match us, hl with | [_, _], _ => rfl) rfl rfl (.inl rfl) (.inl rfl) (by decide) (by decide) (by decide) (by decide) (fun _ => rfl)
  obtain ⟨fd_InvalidWish_init, F_InvalidWish_init⟩ := c.def_ 12 (d := ⟨maL "InvalidWish" "__init__", "__init__", "InvalidWish.__init__", st_InvalidWish_init⟩) rfl
  have xf_InvalidWish : ∀ base : Heap, ExF P w K mg base "InvalidWish" "given" := fun base => exf_ok (N := N_InvalidWish_init) xo_InvalidWish F_InvalidWish_init sc_InvalidWish_init (F_InvalidWish_init.bindsN fun _ _ _ _ _ _ us hl => match us, hl with | [_, _], _ => rfl) rfl rfl (.inl rfl) (.inl rfl) (by decide) (by decide) (by decide) (by decide) (fun _ => rfl)
  obtain ⟨fd_InvalidIndex_init, F_InvalidIndex_init⟩ := c.def_ 13 (d := ⟨maL "InvalidIndex" "__init__", "__init__", "InvalidIndex.__init__", st_InvalidIndex_init⟩) rfl
  have xf_InvalidIndex : ∀ base : Heap, ExF P w K mg base "InvalidIndex" "given" := fun base => exf_ok (N := N_InvalidIndex_init) xo_InvalidIndex F_InvalidIndex_init sc_InvalidIndex_init (F_InvalidIndex_init.bindsN fun _ _ _ _ _ _ us hl => match us, hl with | [_, _], _ => rfl) rfl rfl (.inl rfl) (.inl rfl) (by decide) (by decide) (by decide) (by decide) (fun _ => rfl)
  obtain ⟨fd_InvalidNumber_init, F_InvalidNumber_init⟩ := c.def_ 14 (d := ⟨maL "InvalidNumber" "__init__", "__init__", "InvalidNumber.__init__", st_InvalidNumber_init⟩) rfl
  have xf_InvalidNumber : ∀ base : Heap, ExF P w K mg base "InvalidNumber" "given" := fun base => exf_ok (N := N_InvalidNumber_init) xo_InvalidNumber F_InvalidNumber_init sc_InvalidNumber_init (F_InvalidNumber_init.bindsN fun _ _ _ _ _ _ us hl => match us, hl with | [_, _], _ => rfl) rfl rfl (.inl rfl) (.inl rfl) (by decide) (by decide) (by decide) (by decide) (fun _ => rfl)
  obtain ⟨fd_InvalidLine_init, F_InvalidLine_init⟩ := c.def_ 15 (d := ⟨maL "InvalidLine" "__init__", "__init__", "InvalidLine.__init__", st_InvalidLine_init⟩) rfl
  have xf_InvalidLine : ∀ base : Heap, ExF P w K mg base "InvalidLine" "given" := fun base => exf_ok (N := N_InvalidLine_init) xo_InvalidLine F_InvalidLine_init sc_InvalidLine_init (F_InvalidLine_init.bindsN fun _ _ _ _ _ _ us hl => match us, hl with | [_, _], _ => rfl) rfl rfl (.inl rfl) (.inl rfl) (by decide) (by decide) (by decide) (by decide) (fun _ => rfl)
  obtain ⟨fd_NotASetting_init, F_NotASetting_init⟩ := c.def_ 16 (d := ⟨maL "NotASetting" "__init__", "__init__", "NotASetting.__init__", st_NotASetting_init⟩) rfl
  have xf_NotASetting : ∀ base : Heap, ExF P w K mg base "NotASetting" "given" := fun base => exf_ok (N := N_NotASetting_init) xo_NotASetting F_NotASetting_init sc_NotASetting_init (F_NotASetting_init.bindsN fun _ _ _ _ _ _ us hl => match us, hl with | [_, _], _ => rfl) rfl rfl (.inl rfl) (.inl rfl) (by decide) (by decide) (by decide) (by decide) (fun _ => rfl)
  obtain ⟨fd_NotARun_init, F_NotARun_init⟩ := c.def_ 17 (d := ⟨maL "NotARun" "__init__", "__init__", "NotARun.__init__", st_NotARun_init⟩) rfl
  have xf_NotARun : ∀ base : Heap, ExF P w K mg base "NotARun" "given" := fun base => exf_ok (N := N_NotARun_init) xo_NotARun F_NotARun_init sc_NotARun_init (F_NotARun_init.bindsN fun _ _ _ _ _ _ us hl => match us, hl with | [_, _], _ => rfl) rfl rfl (.inl rfl) (.inl rfl) (by decide) (by decide) (by decide) (by decide) (fun _ => rfl)
  obtain ⟨fd_NotARule_init, F_NotARule_init⟩ := c.def_ 18 (d := ⟨maL "NotARule" "__init__", "__init__", "NotARule.__init__", st_NotARule_init⟩) rfl
  have xf_NotARule : ∀ base : Heap, ExF P w K mg base "NotARule" "given" := fun base => exf_ok (N := N_NotARule_init) xo_NotARule F_NotARule_init sc_NotARule_init (F_NotARule_init.bindsN fun _ _ _ _ _ _ us hl => match us, hl with | [_, _], _ => rfl) rfl rfl (.inl rfl) (.inl rfl) (by decide) (by decide) (by decide) (by decide) (fun _ => rfl)
  obtain ⟨fd_InvalidHouses_init, F_InvalidHouses_init⟩ := c.def_ 19 (d := ⟨maL "InvalidHouses" "__init__", "__init__", "InvalidHouses.__init__", st_InvalidHouses_init⟩) rfl
  have xf_InvalidHouses : ∀ base : Heap, ExF P w K mg base "InvalidHouses" "index" := fun base => exf_ok (N := N_InvalidHouses_init) xo_InvalidHouses F_InvalidHouses_init sc_InvalidHouses_init (F_InvalidHouses_init.bindsN fun _ _ _ _ _ _ us hl => match us, hl with | [_, _], _ => rfl) rfl rfl (.inl rfl) (.inl rfl) (by decide) (by decide) (by decide) (by decide) (fun _ => rfl)
  obtain ⟨fd_InvalidFails_init, F_InvalidFails_init⟩ := c.def_ 20 (d := ⟨maL "InvalidFails" "__init__", "__init__", "InvalidFails.__init__", st_InvalidFails_init⟩) rfl
  have xf_InvalidFails : ∀ base : Heap, ExF P w K mg base "InvalidFails" "index" := fun base => exf_ok (N := N_InvalidFails_init) xo_InvalidFails F_InvalidFails_init sc_InvalidFails_init (F_InvalidFails_init.bindsN fun _ _ _ _ _ _ us hl => match us, hl with | [_, _], _ => rfl) rfl rfl (.inl rfl) (.inl rfl) (by decide) (by decide) (by decide) (by decide) (fun _ => rfl)
  obtain ⟨fd_InvalidReaders_init, F_InvalidReaders_init⟩ := c.def_ 21 (d := ⟨maL "InvalidReaders" "__init__", "__init__", "InvalidReaders.__init__", st_InvalidReaders_init⟩) rfl
  have xf_InvalidReaders : ∀ base : Heap, ExF P w K mg base "InvalidReaders" "index" := fun base => exf_ok (N := N_InvalidReaders_init) xo_InvalidReaders F_InvalidReaders_init sc_InvalidReaders_init (F_InvalidReaders_init.bindsN fun _ _ _ _ _ _ us hl => match us, hl with | [_, _], _ => rfl) rfl rfl (.inl rfl) (.inl rfl) (by decide) (by decide) (by decide) (by decide) (fun _ => rfl)
  obtain ⟨fd_InvalidPromises_init, F_InvalidPromises_init⟩ := c.def_ 22 (d := ⟨maL "InvalidPromises" "__init__", "__init__", "InvalidPromises.__init__", st_InvalidPromises_init⟩) rfl
  have xf_InvalidPromises : ∀ base : Heap, ExF P w K mg base "InvalidPromises" "index" := fun base => exf_ok (N := N_InvalidPromises_init) xo_InvalidPromises F_InvalidPromises_init sc_InvalidPromises_init (F_InvalidPromises_init.bindsN fun _ _ _ _ _ _ us hl => match us, hl with | [_, _], _ => rfl) rfl rfl (.inl rfl) (.inl rfl) (by decide) (by decide) (by decide) (by decide) (fun _ => rfl)
  obtain ⟨fd_InvalidEvents_init, F_InvalidEvents_init⟩ := c.def_ 23 (d := ⟨maL "InvalidEvents" "__init__", "__init__", "InvalidEvents.__init__", st_InvalidEvents_init⟩) rfl
  have xf_InvalidEvents : ∀ base : Heap, ExF P w K mg base "InvalidEvents" "index" := fun base => exf_ok (N := N_InvalidEvents_init) xo_InvalidEvents F_InvalidEvents_init sc_InvalidEvents_init (F_InvalidEvents_init.bindsN fun _ _ _ _ _ _ us hl => match us, hl with | [_, _], _ => rfl) rfl rfl (.inl rfl) (.inl rfl) (by decide) (by decide) (by decide) (by decide) (fun _ => rfl)
  obtain ⟨fd_InvalidOffers_init, F_InvalidOffers_init⟩ := c.def_ 24 (d := ⟨maL "InvalidOffers" "__init__", "__init__", "InvalidOffers.__init__", st_InvalidOffers_init⟩) rfl
  have xf_InvalidOffers : ∀ base : Heap, ExF P w K mg base "InvalidOffers" "index" := fun base => exf_ok (N := N_InvalidOffers_init) xo_InvalidOffers F_InvalidOffers_init sc_InvalidOffers_init (F_InvalidOffers_init.bindsN fun _ _ _ _ _ _ us hl => match us, hl with | [_, _], _ => rfl) rfl rfl (.inl rfl) (.inl rfl) (by decide) (by decide) (by decide) (by decide) (fun _ => rfl)
  obtain ⟨fd_InvalidDeeds_init, F_InvalidDeeds_init⟩ := c.def_ 25 (d := ⟨maL "InvalidDeeds" "__init__", "__init__", "InvalidDeeds.__init__", st_InvalidDeeds_init⟩) rfl
  have xf_InvalidDeeds : ∀ base : Heap, ExF P w K mg base "InvalidDeeds" "index" := fun base => exf_ok (N := N_InvalidDeeds_init) xo_InvalidDeeds F_InvalidDeeds_init sc_InvalidDeeds_init (F_InvalidDeeds_init.bindsN fun _ _ _ _ _ _ us hl => match us, hl with | [_, _], _ => rfl) rfl rfl (.inl rfl) (.inl rfl) (by decide) (by decide) (by decide) (by decide) (fun _ => rfl)
  obtain ⟨fd_UnknownName_init, F_UnknownName_init⟩ := c.def_ 26 (d := ⟨maL "UnknownName" "__init__", "__init__", "UnknownName.__init__", st_UnknownName_init⟩) rfl
  have xf_UnknownName : ∀ base : Heap, ExF P w K mg base "UnknownName" "given" := fun base => exf_ok (N := N_UnknownName_init) xo_UnknownName F_UnknownName_init sc_UnknownName_init (F_UnknownName_init.bindsN fun _ _ _ _ _ _ us hl => match us, hl with | [_, _], _ => rfl) rfl rfl (.inl rfl) (.inl rfl) (by decide) (by decide) (by decide) (by decide) (fun _ => rfl)
  obtain ⟨fd_NotReady_init, F_NotReady_init⟩ := c.def_ 27 (d := ⟨maL "NotReady" "__init__", "__init__", "NotReady.__init__", st_NotReady_init⟩) rfl
  have xf_NotReady : ∀ base : Heap, ExF P w K mg base "NotReady" "given" := fun base => exf_ok (N := N_NotReady_init) xo_NotReady F_NotReady_init sc_NotReady_init (F_NotReady_init.bindsN fun _ _ _ _ _ _ us hl => match us, hl with | [_, _], _ => rfl) rfl rfl (.inl rfl) (.inl rfl) (by decide) (by decide) (by decide) (by decide) (fun _ => rfl)
  obtain ⟨fd_Broken_init, F_Broken_init⟩ := c.def_ 28 (d := ⟨maL "Broken" "__init__", "__init__", "Broken.__init__", st_Broken_init⟩) rfl
  have xf_Broken : ∀ base : Heap, ExF P w K mg base "Broken" "index" := fun base => exf_ok (N := N_Broken_init) xo_Broken F_Broken_init sc_Broken_init (F_Broken_init.bindsN fun _ _ _ _ _ _ us hl => match us, hl with | [_, _], _ => rfl) rfl rfl (.inl rfl) (.inl rfl) (by decide) (by decide) (by decide) (by decide) (fun _ => rfl)
  obtain ⟨fd_InUse_init, F_InUse_init⟩ := c.def_ 29 (d := ⟨maL "InUse" "__init__", "__init__", "InUse.__init__", st_InUse_init⟩) rfl
  have xf_InUse : ∀ base : Heap, ExF P w K mg base "InUse" "index" := fun base => exf_ok (N := N_InUse_init) xo_InUse F_InUse_init sc_InUse_init (F_InUse_init.bindsN fun _ _ _ _ _ _ us hl => match us, hl with | [_, _], _ => rfl) rfl rfl (.inl rfl) (.inl rfl) (by decide) (by decide) (by decide) (by decide) (fun _ => rfl)
  have xk_InvalidText : ∀ base : Heap, ExFK P w K mg base "InvalidText" "given" := fun base => exfk_ok (N := N_InvalidText_init) xo_InvalidText F_InvalidText_init sc_InvalidText_init (fun _ _ _ _ _ _ us ws h1 h2 => match us, ws, h1, h2 with | [_], [_], _, _ => rfl) rfl rfl (.inl rfl) (.inl rfl) (by decide) (by decide) (by decide) (by decide) (fun _ => rfl)
  have xk_InvalidName : ∀ base : Heap, ExFK P w K mg base "InvalidName" "given" := fun base => exfk_ok (N := N_InvalidName_init) xo_InvalidName F_InvalidName_init sc_InvalidName_init (fun _ _ _ _ _ _ us ws h1 h2 => match us, ws, h1, h2 with | [_], [_], _, _ => rfl) rfl rfl (.inl rfl) (.inl rfl) (by decide) (by decide) (by decide) (by decide) (fun _ => rfl)
  have xk_InvalidView : ∀ base : Heap, ExFK P w K mg base "InvalidView" "given" := fun base => exfk_ok (N := N_InvalidView_init) xo_InvalidView F_InvalidView_init sc_InvalidView_init (fun _ _ _ _ _ _ us ws h1 h2 => match us, ws, h1, h2 with | [_], [_], _, _ => rfl) rfl rfl (.inl rfl) (.inl rfl) (by decide) (by decide) (by decide) (by decide) (fun _ => rfl)
  have xk_InvalidKind : ∀ base : Heap, ExFK P w K mg base "InvalidKind" "given" := fun base => exfk_ok (N := N_InvalidKind_init) xo_InvalidKind F_InvalidKind_init sc_InvalidKind_init (fun _ _ _ _ _ _ us ws h1 h2 => match us, ws, h1, h2 with | [_], [_], _, _ => rfl) rfl rfl (.inl rfl) (.inl rfl) (by decide) (by decide) (by decide) (by decide) (fun _ => rfl)
  have xk_InvalidWish : ∀ base : Heap, ExFK P w K mg base "InvalidWish" "given" := fun base => exfk_ok (N := N_InvalidWish_init) xo_InvalidWish F_InvalidWish_init sc_InvalidWish_init (fun _ _ _ _ _ _ us ws h1 h2 => match us, ws, h1, h2 with | [_], [_], _, _ => rfl) rfl rfl (.inl rfl) (.inl rfl) (by decide) (by decide) (by decide) (by decide) (fun _ => rfl)
  have xk_InvalidIndex : ∀ base : Heap, ExFK P w K mg base "InvalidIndex" "given" := fun base => exfk_ok (N := N_InvalidIndex_init) xo_InvalidIndex F_InvalidIndex_init sc_InvalidIndex_init (fun _ _ _ _ _ _ us ws h1 h2 => match us, ws, h1, h2 with | [_], [_], _, _ => rfl) rfl rfl (.inl rfl) (.inl rfl) (by decide) (by decide) (by decide) (by decide) (fun _ => rfl)
  have xk_InvalidNumber : ∀ base : Heap, ExFK P w K mg base "InvalidNumber" "given" := fun base => exfk_ok (N := N_InvalidNumber_init) xo_InvalidNumber F_InvalidNumber_init sc_InvalidNumber_init (fun _ _ _ _ _ _ us ws h1 h2 => match us, ws, h1, h2 with | [_], [_], _, _ => rfl) rfl rfl (.inl rfl) (.inl rfl) (by decide) (by decide) (by decide) (by decide) (fun _ => rfl)
  have xk_InvalidLine : ∀ base : Heap, ExFK P w K mg base "InvalidLine" "given" := fun base => exfk_ok (N := N_InvalidLine_init) xo_InvalidLine F_InvalidLine_init sc_InvalidLine_init (fun _ _ _ _ _ _ us ws h1 h2 => match us, ws, h1, h2 with | [_], [_], _, _ => rfl) rfl rfl (.inl rfl) (.inl rfl) (by decide) (by decide) (by decide) (by decide) (fun _ => rfl)
  have xk_NotASetting : ∀ base : Heap, ExFK P w K mg base "NotASetting" "given" := fun base => exfk_ok (N := N_NotASetting_init) xo_NotASetting F_NotASetting_init sc_NotASetting_init (fun _ _ _ _ _ _ us ws h1 h2 => match us, ws, h1, h2 with | [_], [_], _, _ => rfl) rfl rfl (.inl rfl) (.inl rfl) (by decide) (by decide) (by decide) (by decide) (fun _ => rfl)
  have xk_NotARun : ∀ base : Heap, ExFK P w K mg base "NotARun" "given" := fun base => exfk_ok (N := N_NotARun_init) xo_NotARun F_NotARun_init sc_NotARun_init (fun _ _ _ _ _ _ us ws h1 h2 => match us, ws, h1, h2 with | [_], [_], _, _ => rfl) rfl rfl (.inl rfl) (.inl rfl) (by decide) (by decide) (by decide) (by decide) (fun _ => rfl)
  have xk_NotARule : ∀ base : Heap, ExFK P w K mg base "NotARule" "given" := fun base => exfk_ok (N := N_NotARule_init) xo_NotARule F_NotARule_init sc_NotARule_init (fun _ _ _ _ _ _ us ws h1 h2 => match us, ws, h1, h2 with | [_], [_], _, _ => rfl) rfl rfl (.inl rfl) (.inl rfl) (by decide) (by decide) (by decide) (by decide) (fun _ => rfl)
  have xk_InvalidHouses : ∀ base : Heap, ExFK P w K mg base "InvalidHouses" "index" := fun base => exfk_ok (N := N_InvalidHouses_init) xo_InvalidHouses F_InvalidHouses_init sc_InvalidHouses_init (fun _ _ _ _ _ _ us ws h1 h2 => match us, ws, h1, h2 with | [_], [_], _, _ => rfl) rfl rfl (.inl rfl) (.inl rfl) (by decide) (by decide) (by decide) (by decide) (fun _ => rfl)
  have xk_InvalidFails : ∀ base : Heap, ExFK P w K mg base "InvalidFails" "index" := fun base => exfk_ok (N := N_InvalidFails_init) xo_InvalidFails F_InvalidFails_init sc_InvalidFails_init (fun _ _ _ _ _ _ us ws h1 h2 => match us, ws, h1, h2 with | [_], [_], _, _ => rfl) rfl rfl (.inl rfl) (.inl rfl) (by decide) (by decide) (by decide) (by decide) (fun _ => rfl)
  have xk_InvalidReaders : ∀ base : Heap, ExFK P w K mg base "InvalidReaders" "index" := fun base => exfk_ok (N := N_InvalidReaders_init) xo_InvalidReaders F_InvalidReaders_init sc_InvalidReaders_init (fun _ _ _ _ _ _ us ws h1 h2 => match us, ws, h1, h2 with | [_], [_], _, _ => rfl) rfl rfl (.inl rfl) (.inl rfl) (by decide) (by decide) (by decide) (by decide) (fun _ => rfl)
  have xk_InvalidPromises : ∀ base : Heap, ExFK P w K mg base "InvalidPromises" "index" := fun base => exfk_ok (N := N_InvalidPromises_init) xo_InvalidPromises F_InvalidPromises_init sc_InvalidPromises_init (fun _ _ _ _ _ _ us ws h1 h2 => match us, ws, h1, h2 with | [_], [_], _, _ => rfl) rfl rfl (.inl rfl) (.inl rfl) (by decide) (by decide) (by decide) (by decide) (fun _ => rfl)
  have xk_InvalidEvents : ∀ base : Heap, ExFK P w K mg base "InvalidEvents" "index" := fun base => exfk_ok (N := N_InvalidEvents_init) xo_InvalidEvents F_InvalidEvents_init sc_InvalidEvents_init (fun _ _ _ _ _ _ us ws h1 h2 => match us, ws, h1, h2 with | [_], [_], _, _ => rfl) rfl rfl (.inl rfl) (.inl rfl) (by decide) (by decide) (by decide) (by decide) (fun _ => rfl)
  have xk_InvalidOffers : ∀ base : Heap, ExFK P w K mg base "InvalidOffers" "index" := fun base => exfk_ok (N := N_InvalidOffers_init) xo_InvalidOffers F_InvalidOffers_init sc_InvalidOffers_init (fun _ _ _ _ _ _ us ws h1 h2 => match us, ws, h1, h2 with | [_], [_], _, _ => rfl) rfl rfl (.inl rfl) (.inl rfl) (by decide) (by decide) (by decide) (by decide) (fun _ => rfl)
  have xk_InvalidDeeds : ∀ base : Heap, ExFK P w K mg base "InvalidDeeds" "index" := fun base => exfk_ok (N := N_InvalidDeeds_init) xo_InvalidDeeds F_InvalidDeeds_init sc_InvalidDeeds_init (fun _ _ _ _ _ _ us ws h1 h2 => match us, ws, h1, h2 with | [_], [_], _, _ => rfl) rfl rfl (.inl rfl) (.inl rfl) (by decide) (by decide) (by decide) (by decide) (fun _ => rfl)
  have xk_UnknownName : ∀ base : Heap, ExFK P w K mg base "UnknownName" "given" := fun base => exfk_ok (N := N_UnknownName_init) xo_UnknownName F_UnknownName_init sc_UnknownName_init (fun _ _ _ _ _ _ us ws h1 h2 => match us, ws, h1, h2 with | [_], [_], _, _ => rfl) rfl rfl (.inl rfl) (.inl rfl) (by decide) (by decide) (by decide) (by decide) (fun _ => rfl)
  have xk_NotReady : ∀ base : Heap, ExFK P w K mg base "NotReady" "given" := fun base => exfk_ok (N := N_NotReady_init) xo_NotReady F_NotReady_init sc_NotReady_init (fun _ _ _ _ _ _ us ws h1 h2 => match us, ws, h1, h2 with | [_], [_], _, _ => rfl) rfl rfl (.inl rfl) (.inl rfl) (by decide) (by decide) (by decide) (by decide) (fun _ => rfl)
  have xk_Broken : ∀ base : Heap, ExFK P w K mg base "Broken" "index" := fun base => exfk_ok (N := N_Broken_init) xo_Broken F_Broken_init sc_Broken_init (fun _ _ _ _ _ _ us ws h1 h2 => match us, ws, h1, h2 with | [_], [_], _, _ => rfl) rfl rfl (.inl rfl) (.inl rfl) (by decide) (by decide) (by decide) (by decide) (fun _ => rfl)
  have xk_InUse : ∀ base : Heap, ExFK P w K mg base "InUse" "index" := fun base => exfk_ok (N := N_InUse_init) xo_InUse F_InUse_init sc_InUse_init (fun _ _ _ _ _ _ us ws h1 h2 => match us, ws, h1, h2 with | [_], [_], _, _ => rfl) rfl rfl (.inl rfl) (.inl rfl) (by decide) (by decide) (by decide) (by decide) (fun _ => rfl)
  have gx_InvalidText := He.glo_ok X G (c.fact 57 (b := faB (.glo "InvalidText")) rfl)
  have gx_InvalidName := He.glo_ok X G (c.fact 58 (b := faB (.glo "InvalidName")) rfl)
  have gx_InvalidView := He.glo_ok X G (c.fact 59 (b := faB (.glo "InvalidView")) rfl)
  have gx_InvalidKind := He.glo_ok X G (c.fact 60 (b := faB (.glo "InvalidKind")) rfl)
  have gx_InvalidWish := He.glo_ok X G (c.fact 61 (b := faB (.glo "InvalidWish")) rfl)
  have gx_InvalidIndex := He.glo_ok X G (c.fact 62 (b := faB (.glo "InvalidIndex")) rfl)
  have gx_InvalidNumber := He.glo_ok X G (c.fact 63 (b := faB (.glo "InvalidNumber")) rfl)
  have gx_InvalidLine := He.glo_ok X G (c.fact 64 (b := faB (.glo "InvalidLine")) rfl)
  have gx_NotASetting := He.glo_ok X G (c.fact 65 (b := faB (.glo "NotASetting")) rfl)
  have gx_NotARun := He.glo_ok X G (c.fact 66 (b := faB (.glo "NotARun")) rfl)
  have gx_NotARule := He.glo_ok X G (c.fact 67 (b := faB (.glo "NotARule")) rfl)
  have gx_InvalidHouses := He.glo_ok X G (c.fact 68 (b := faB (.glo "InvalidHouses")) rfl)
  have gx_InvalidFails := He.glo_ok X G (c.fact 69 (b := faB (.glo "InvalidFails")) rfl)
  have gx_InvalidReaders := He.glo_ok X G (c.fact 70 (b := faB (.glo "InvalidReaders")) rfl)
  have gx_InvalidPromises := He.glo_ok X G (c.fact 71 (b := faB (.glo "InvalidPromises")) rfl)
  have gx_InvalidEvents := He.glo_ok X G (c.fact 72 (b := faB (.glo "InvalidEvents")) rfl)
  have gx_InvalidOffers := He.glo_ok X G (c.fact 73 (b := faB (.glo "InvalidOffers")) rfl)
  have gx_InvalidDeeds := He.glo_ok X G (c.fact 74 (b := faB (.glo "InvalidDeeds")) rfl)
  have gx_UnknownName := He.glo_ok X G (c.fact 75 (b := faB (.glo "UnknownName")) rfl)
  have gx_NoRule := He.glo_ok X G (c.fact 76 (b := faB (.glo "NoRule")) rfl)
  have gx_NotReady := He.glo_ok X G (c.fact 77 (b := faB (.glo "NotReady")) rfl)
  have gx_Broken := He.glo_ok X G (c.fact 78 (b := faB (.glo "Broken")) rfl)
  have gx_InUse := He.glo_ok X G (c.fact 79 (b := faB (.glo "InUse")) rfl)
  have gx_NothingToUndo := He.glo_ok X G (c.fact 80 (b := faB (.glo "NothingToUndo")) rfl)
  have gx_WrongValue := He.glo_ok X G (c.fact 81 (b := faB (.glo "WrongValue")) rfl)
  have gx_WrongName := He.glo_ok X G (c.fact 82 (b := faB (.glo "WrongName")) rfl)
  have gx_NoAnswer := He.glo_ok X G (c.fact 83 (b := faB (.glo "NoAnswer")) rfl)
  have ecs := excsB_ok (c.fact 84 (b := excsB ["WrongValue", "InvalidText", "InvalidName", "InvalidView", "InvalidKind", "InvalidWish", "InvalidIndex", "InvalidNumber", "InvalidLine", "NotASetting", "NotARun", "NotARule", "InvalidHouses", "InvalidFails", "InvalidReaders", "InvalidPromises", "InvalidEvents", "InvalidOffers", "InvalidDeeds", "WrongName", "UnknownName", "NoAnswer", "NoRule", "NotReady", "Broken", "InUse", "NothingToUndo"]) rfl)
  have nf_given := nofsB_ok (c.fact 85 (b := nofsB ["WrongValue", "InvalidText", "InvalidName", "InvalidView", "InvalidKind", "InvalidWish", "InvalidIndex", "InvalidNumber", "InvalidLine", "NotASetting", "NotARun", "NotARule", "InvalidHouses", "InvalidFails", "InvalidReaders", "InvalidPromises", "InvalidEvents", "InvalidOffers", "InvalidDeeds", "WrongName", "UnknownName", "NoAnswer", "NoRule", "NotReady", "Broken", "InUse", "NothingToUndo"] "given") rfl)
  have nf_index := nofsB_ok (c.fact 86 (b := nofsB ["WrongValue", "InvalidText", "InvalidName", "InvalidView", "InvalidKind", "InvalidWish", "InvalidIndex", "InvalidNumber", "InvalidLine", "NotASetting", "NotARun", "NotARule", "InvalidHouses", "InvalidFails", "InvalidReaders", "InvalidPromises", "InvalidEvents", "InvalidOffers", "InvalidDeeds", "WrongName", "UnknownName", "NoAnswer", "NoRule", "NotReady", "Broken", "InUse", "NothingToUndo"] "index") rfl)
  have ie_InvalidText := isEB_ok (c.fact 87 (b := isEB "InvalidText" [("WrongValue", false), ("InvalidText", true), ("InvalidName", false), ("InvalidView", false), ("InvalidKind", false), ("InvalidWish", false), ("InvalidIndex", false), ("InvalidNumber", false), ("InvalidLine", false), ("NotASetting", false), ("NotARun", false), ("NotARule", false), ("InvalidHouses", false), ("InvalidFails", false), ("InvalidReaders", false), ("InvalidPromises", false), ("InvalidEvents", false), ("InvalidOffers", false), ("InvalidDeeds", false), ("WrongName", false), ("UnknownName", false), ("NoAnswer", false), ("NoRule", false), ("NotReady", false), ("Broken", false), ("InUse", false), ("NothingToUndo", false)]) rfl)
  have ie_InvalidName := isEB_ok (c.fact 88 (b := isEB "InvalidName" [("WrongValue", false), ("InvalidText", false), ("InvalidName", true), ("InvalidView", false), ("InvalidKind", false), ("InvalidWish", false), ("InvalidIndex", false), ("InvalidNumber", false), ("InvalidLine", false), ("NotASetting", false), ("NotARun", false), ("NotARule", false), ("InvalidHouses", false), ("InvalidFails", false), ("InvalidReaders", false), ("InvalidPromises", false), ("InvalidEvents", false), ("InvalidOffers", false), ("InvalidDeeds", false), ("WrongName", false), ("UnknownName", false), ("NoAnswer", false), ("NoRule", false), ("NotReady", false), ("Broken", false), ("InUse", false), ("NothingToUndo", false)]) rfl)
  have ie_InvalidView := isEB_ok (c.fact 89 (b := isEB "InvalidView" [("WrongValue", false), ("InvalidText", false), ("InvalidName", false), ("InvalidView", true), ("InvalidKind", false), ("InvalidWish", false), ("InvalidIndex", false), ("InvalidNumber", false), ("InvalidLine", false), ("NotASetting", false), ("NotARun", false), ("NotARule", false), ("InvalidHouses", false), ("InvalidFails", false), ("InvalidReaders", false), ("InvalidPromises", false), ("InvalidEvents", false), ("InvalidOffers", false), ("InvalidDeeds", false), ("WrongName", false), ("UnknownName", false), ("NoAnswer", false), ("NoRule", false), ("NotReady", false), ("Broken", false), ("InUse", false), ("NothingToUndo", false)]) rfl)
  have ie_InvalidKind := isEB_ok (c.fact 90 (b := isEB "InvalidKind" [("WrongValue", false), ("InvalidText", false), ("InvalidName", false), ("InvalidView", false), ("InvalidKind", true), ("InvalidWish", false), ("InvalidIndex", false), ("InvalidNumber", false), ("InvalidLine", false), ("NotASetting", false), ("NotARun", false), ("NotARule", false), ("InvalidHouses", false), ("InvalidFails", false), ("InvalidReaders", false), ("InvalidPromises", false), ("InvalidEvents", false), ("InvalidOffers", false), ("InvalidDeeds", false), ("WrongName", false), ("UnknownName", false), ("NoAnswer", false), ("NoRule", false), ("NotReady", false), ("Broken", false), ("InUse", false), ("NothingToUndo", false)]) rfl)
  have ie_InvalidWish := isEB_ok (c.fact 91 (b := isEB "InvalidWish" [("WrongValue", false), ("InvalidText", false), ("InvalidName", false), ("InvalidView", false), ("InvalidKind", false), ("InvalidWish", true), ("InvalidIndex", false), ("InvalidNumber", false), ("InvalidLine", false), ("NotASetting", false), ("NotARun", false), ("NotARule", false), ("InvalidHouses", false), ("InvalidFails", false), ("InvalidReaders", false), ("InvalidPromises", false), ("InvalidEvents", false), ("InvalidOffers", false), ("InvalidDeeds", false), ("WrongName", false), ("UnknownName", false), ("NoAnswer", false), ("NoRule", false), ("NotReady", false), ("Broken", false), ("InUse", false), ("NothingToUndo", false)]) rfl)
  have ie_InvalidIndex := isEB_ok (c.fact 92 (b := isEB "InvalidIndex" [("WrongValue", false), ("InvalidText", false), ("InvalidName", false), ("InvalidView", false), ("InvalidKind", false), ("InvalidWish", false), ("InvalidIndex", true), ("InvalidNumber", false), ("InvalidLine", false), ("NotASetting", false), ("NotARun", false), ("NotARule", false), ("InvalidHouses", false), ("InvalidFails", false), ("InvalidReaders", false), ("InvalidPromises", false), ("InvalidEvents", false), ("InvalidOffers", false), ("InvalidDeeds", false), ("WrongName", false), ("UnknownName", false), ("NoAnswer", false), ("NoRule", false), ("NotReady", false), ("Broken", false), ("InUse", false), ("NothingToUndo", false)]) rfl)
  have ie_InvalidNumber := isEB_ok (c.fact 93 (b := isEB "InvalidNumber" [("WrongValue", false), ("InvalidText", false), ("InvalidName", false), ("InvalidView", false), ("InvalidKind", false), ("InvalidWish", false), ("InvalidIndex", false), ("InvalidNumber", true), ("InvalidLine", false), ("NotASetting", false), ("NotARun", false), ("NotARule", false), ("InvalidHouses", false), ("InvalidFails", false), ("InvalidReaders", false), ("InvalidPromises", false), ("InvalidEvents", false), ("InvalidOffers", false), ("InvalidDeeds", false), ("WrongName", false), ("UnknownName", false), ("NoAnswer", false), ("NoRule", false), ("NotReady", false), ("Broken", false), ("InUse", false), ("NothingToUndo", false)]) rfl)
  have ie_InvalidLine := isEB_ok (c.fact 94 (b := isEB "InvalidLine" [("WrongValue", false), ("InvalidText", false), ("InvalidName", false), ("InvalidView", false), ("InvalidKind", false), ("InvalidWish", false), ("InvalidIndex", false), ("InvalidNumber", false), ("InvalidLine", true), ("NotASetting", false), ("NotARun", false), ("NotARule", false), ("InvalidHouses", false), ("InvalidFails", false), ("InvalidReaders", false), ("InvalidPromises", false), ("InvalidEvents", false), ("InvalidOffers", false), ("InvalidDeeds", false), ("WrongName", false), ("UnknownName", false), ("NoAnswer", false), ("NoRule", false), ("NotReady", false), ("Broken", false), ("InUse", false), ("NothingToUndo", false)]) rfl)
  have ie_NotASetting := isEB_ok (c.fact 95 (b := isEB "NotASetting" [("WrongValue", false), ("InvalidText", false), ("InvalidName", false), ("InvalidView", false), ("InvalidKind", false), ("InvalidWish", false), ("InvalidIndex", false), ("InvalidNumber", false), ("InvalidLine", false), ("NotASetting", true), ("NotARun", false), ("NotARule", false), ("InvalidHouses", false), ("InvalidFails", false), ("InvalidReaders", false), ("InvalidPromises", false), ("InvalidEvents", false), ("InvalidOffers", false), ("InvalidDeeds", false), ("WrongName", false), ("UnknownName", false), ("NoAnswer", false), ("NoRule", false), ("NotReady", false), ("Broken", false), ("InUse", false), ("NothingToUndo", false)]) rfl)
  have ie_NotARun := isEB_ok (c.fact 96 (b := isEB "NotARun" [("WrongValue", false), ("InvalidText", false), ("InvalidName", false), ("InvalidView", false), ("InvalidKind", false), ("InvalidWish", false), ("InvalidIndex", false), ("InvalidNumber", false), ("InvalidLine", false), ("NotASetting", false), ("NotARun", true), ("NotARule", false), ("InvalidHouses", false), ("InvalidFails", false), ("InvalidReaders", false), ("InvalidPromises", false), ("InvalidEvents", false), ("InvalidOffers", false), ("InvalidDeeds", false), ("WrongName", false), ("UnknownName", false), ("NoAnswer", false), ("NoRule", false), ("NotReady", false), ("Broken", false), ("InUse", false), ("NothingToUndo", false)]) rfl)
  have ie_NotARule := isEB_ok (c.fact 97 (b := isEB "NotARule" [("WrongValue", false), ("InvalidText", false), ("InvalidName", false), ("InvalidView", false), ("InvalidKind", false), ("InvalidWish", false), ("InvalidIndex", false), ("InvalidNumber", false), ("InvalidLine", false), ("NotASetting", false), ("NotARun", false), ("NotARule", true), ("InvalidHouses", false), ("InvalidFails", false), ("InvalidReaders", false), ("InvalidPromises", false), ("InvalidEvents", false), ("InvalidOffers", false), ("InvalidDeeds", false), ("WrongName", false), ("UnknownName", false), ("NoAnswer", false), ("NoRule", false), ("NotReady", false), ("Broken", false), ("InUse", false), ("NothingToUndo", false)]) rfl)
  have ie_InvalidHouses := isEB_ok (c.fact 98 (b := isEB "InvalidHouses" [("WrongValue", false), ("InvalidText", false), ("InvalidName", false), ("InvalidView", false), ("InvalidKind", false), ("InvalidWish", false), ("InvalidIndex", false), ("InvalidNumber", false), ("InvalidLine", false), ("NotASetting", false), ("NotARun", false), ("NotARule", false), ("InvalidHouses", true), ("InvalidFails", false), ("InvalidReaders", false), ("InvalidPromises", false), ("InvalidEvents", false), ("InvalidOffers", false), ("InvalidDeeds", false), ("WrongName", false), ("UnknownName", false), ("NoAnswer", false), ("NoRule", false), ("NotReady", false), ("Broken", false), ("InUse", false), ("NothingToUndo", false)]) rfl)
  have ie_InvalidFails := isEB_ok (c.fact 99 (b := isEB "InvalidFails" [("WrongValue", false), ("InvalidText", false), ("InvalidName", false), ("InvalidView", false), ("InvalidKind", false), ("InvalidWish", false), ("InvalidIndex", false), ("InvalidNumber", false), ("InvalidLine", false), ("NotASetting", false), ("NotARun", false), ("NotARule", false), ("InvalidHouses", false), ("InvalidFails", true), ("InvalidReaders", false), ("InvalidPromises", false), ("InvalidEvents", false), ("InvalidOffers", false), ("InvalidDeeds", false), ("WrongName", false), ("UnknownName", false), ("NoAnswer", false), ("NoRule", false), ("NotReady", false), ("Broken", false), ("InUse", false), ("NothingToUndo", false)]) rfl)
  have ie_InvalidReaders := isEB_ok (c.fact 100 (b := isEB "InvalidReaders" [("WrongValue", false), ("InvalidText", false), ("InvalidName", false), ("InvalidView", false), ("InvalidKind", false), ("InvalidWish", false), ("InvalidIndex", false), ("InvalidNumber", false), ("InvalidLine", false), ("NotASetting", false), ("NotARun", false), ("NotARule", false), ("InvalidHouses", false), ("InvalidFails", false), ("InvalidReaders", true), ("InvalidPromises", false), ("InvalidEvents", false), ("InvalidOffers", false), ("InvalidDeeds", false), ("WrongName", false), ("UnknownName", false), ("NoAnswer", false), ("NoRule", false), ("NotReady", false), ("Broken", false), ("InUse", false), ("NothingToUndo", false)]) rfl)
  have ie_InvalidPromises := isEB_ok (c.fact 101 (b := isEB "InvalidPromises" [("WrongValue", false), ("InvalidText", false), ("InvalidName", false), ("InvalidView", false), ("InvalidKind", false), ("InvalidWish", false), ("InvalidIndex", false), ("InvalidNumber", false), ("InvalidLine", false), ("NotASetting", false), ("NotARun", false), ("NotARule", false), ("InvalidHouses", false), ("InvalidFails", false), ("InvalidReaders", false), ("InvalidPromises", true), ("InvalidEvents", false), ("InvalidOffers", false), ("InvalidDeeds", false), ("WrongName", false), ("UnknownName", false), ("NoAnswer", false), ("NoRule", false), ("NotReady", false), ("Broken", false), ("InUse", false), ("NothingToUndo", false)]) rfl)
  have ie_InvalidEvents := isEB_ok (c.fact 102 (b := isEB "InvalidEvents" [("WrongValue", false), ("InvalidText", false), ("InvalidName", false), ("InvalidView", false), ("InvalidKind", false), ("InvalidWish", false), ("InvalidIndex", false), ("InvalidNumber", false), ("InvalidLine", false), ("NotASetting", false), ("NotARun", false), ("NotARule", false), ("InvalidHouses", false), ("InvalidFails", false), ("InvalidReaders", false), ("InvalidPromises", false), ("InvalidEvents", true), ("InvalidOffers", false), ("InvalidDeeds", false), ("WrongName", false), ("UnknownName", false), ("NoAnswer", false), ("NoRule", false), ("NotReady", false), ("Broken", false), ("InUse", false), ("NothingToUndo", false)]) rfl)
  have ie_InvalidOffers := isEB_ok (c.fact 103 (b := isEB "InvalidOffers" [("WrongValue", false), ("InvalidText", false), ("InvalidName", false), ("InvalidView", false), ("InvalidKind", false), ("InvalidWish", false), ("InvalidIndex", false), ("InvalidNumber", false), ("InvalidLine", false), ("NotASetting", false), ("NotARun", false), ("NotARule", false), ("InvalidHouses", false), ("InvalidFails", false), ("InvalidReaders", false), ("InvalidPromises", false), ("InvalidEvents", false), ("InvalidOffers", true), ("InvalidDeeds", false), ("WrongName", false), ("UnknownName", false), ("NoAnswer", false), ("NoRule", false), ("NotReady", false), ("Broken", false), ("InUse", false), ("NothingToUndo", false)]) rfl)
  have ie_InvalidDeeds := isEB_ok (c.fact 104 (b := isEB "InvalidDeeds" [("WrongValue", false), ("InvalidText", false), ("InvalidName", false), ("InvalidView", false), ("InvalidKind", false), ("InvalidWish", false), ("InvalidIndex", false), ("InvalidNumber", false), ("InvalidLine", false), ("NotASetting", false), ("NotARun", false), ("NotARule", false), ("InvalidHouses", false), ("InvalidFails", false), ("InvalidReaders", false), ("InvalidPromises", false), ("InvalidEvents", false), ("InvalidOffers", false), ("InvalidDeeds", true), ("WrongName", false), ("UnknownName", false), ("NoAnswer", false), ("NoRule", false), ("NotReady", false), ("Broken", false), ("InUse", false), ("NothingToUndo", false)]) rfl)
  have ie_UnknownName := isEB_ok (c.fact 105 (b := isEB "UnknownName" [("WrongValue", false), ("InvalidText", false), ("InvalidName", false), ("InvalidView", false), ("InvalidKind", false), ("InvalidWish", false), ("InvalidIndex", false), ("InvalidNumber", false), ("InvalidLine", false), ("NotASetting", false), ("NotARun", false), ("NotARule", false), ("InvalidHouses", false), ("InvalidFails", false), ("InvalidReaders", false), ("InvalidPromises", false), ("InvalidEvents", false), ("InvalidOffers", false), ("InvalidDeeds", false), ("WrongName", false), ("UnknownName", true), ("NoAnswer", false), ("NoRule", false), ("NotReady", false), ("Broken", false), ("InUse", false), ("NothingToUndo", false)]) rfl)
  have ie_NoRule := isEB_ok (c.fact 106 (b := isEB "NoRule" [("WrongValue", false), ("InvalidText", false), ("InvalidName", false), ("InvalidView", false), ("InvalidKind", false), ("InvalidWish", false), ("InvalidIndex", false), ("InvalidNumber", false), ("InvalidLine", false), ("NotASetting", false), ("NotARun", false), ("NotARule", false), ("InvalidHouses", false), ("InvalidFails", false), ("InvalidReaders", false), ("InvalidPromises", false), ("InvalidEvents", false), ("InvalidOffers", false), ("InvalidDeeds", false), ("WrongName", false), ("UnknownName", false), ("NoAnswer", false), ("NoRule", true), ("NotReady", false), ("Broken", false), ("InUse", false), ("NothingToUndo", false)]) rfl)
  have ie_NotReady := isEB_ok (c.fact 107 (b := isEB "NotReady" [("WrongValue", false), ("InvalidText", false), ("InvalidName", false), ("InvalidView", false), ("InvalidKind", false), ("InvalidWish", false), ("InvalidIndex", false), ("InvalidNumber", false), ("InvalidLine", false), ("NotASetting", false), ("NotARun", false), ("NotARule", false), ("InvalidHouses", false), ("InvalidFails", false), ("InvalidReaders", false), ("InvalidPromises", false), ("InvalidEvents", false), ("InvalidOffers", false), ("InvalidDeeds", false), ("WrongName", false), ("UnknownName", false), ("NoAnswer", false), ("NoRule", false), ("NotReady", true), ("Broken", false), ("InUse", false), ("NothingToUndo", false)]) rfl)
  have ie_Broken := isEB_ok (c.fact 108 (b := isEB "Broken" [("WrongValue", false), ("InvalidText", false), ("InvalidName", false), ("InvalidView", false), ("InvalidKind", false), ("InvalidWish", false), ("InvalidIndex", false), ("InvalidNumber", false), ("InvalidLine", false), ("NotASetting", false), ("NotARun", false), ("NotARule", false), ("InvalidHouses", false), ("InvalidFails", false), ("InvalidReaders", false), ("InvalidPromises", false), ("InvalidEvents", false), ("InvalidOffers", false), ("InvalidDeeds", false), ("WrongName", false), ("UnknownName", false), ("NoAnswer", false), ("NoRule", false), ("NotReady", false), ("Broken", true), ("InUse", false), ("NothingToUndo", false)]) rfl)
  have ie_InUse := isEB_ok (c.fact 109 (b := isEB "InUse" [("WrongValue", false), ("InvalidText", false), ("InvalidName", false), ("InvalidView", false), ("InvalidKind", false), ("InvalidWish", false), ("InvalidIndex", false), ("InvalidNumber", false), ("InvalidLine", false), ("NotASetting", false), ("NotARun", false), ("NotARule", false), ("InvalidHouses", false), ("InvalidFails", false), ("InvalidReaders", false), ("InvalidPromises", false), ("InvalidEvents", false), ("InvalidOffers", false), ("InvalidDeeds", false), ("WrongName", false), ("UnknownName", false), ("NoAnswer", false), ("NoRule", false), ("NotReady", false), ("Broken", false), ("InUse", true), ("NothingToUndo", false)]) rfl)
  have ie_NothingToUndo := isEB_ok (c.fact 110 (b := isEB "NothingToUndo" [("WrongValue", false), ("InvalidText", false), ("InvalidName", false), ("InvalidView", false), ("InvalidKind", false), ("InvalidWish", false), ("InvalidIndex", false), ("InvalidNumber", false), ("InvalidLine", false), ("NotASetting", false), ("NotARun", false), ("NotARule", false), ("InvalidHouses", false), ("InvalidFails", false), ("InvalidReaders", false), ("InvalidPromises", false), ("InvalidEvents", false), ("InvalidOffers", false), ("InvalidDeeds", false), ("WrongName", false), ("UnknownName", false), ("NoAnswer", false), ("NoRule", false), ("NotReady", false), ("Broken", false), ("InUse", false), ("NothingToUndo", true)]) rfl)
  have ie_WrongValue := isEB_ok (c.fact 111 (b := isEB "WrongValue" [("WrongValue", true), ("InvalidText", true), ("InvalidName", true), ("InvalidView", true), ("InvalidKind", true), ("InvalidWish", true), ("InvalidIndex", true), ("InvalidNumber", true), ("InvalidLine", true), ("NotASetting", true), ("NotARun", true), ("NotARule", true), ("InvalidHouses", true), ("InvalidFails", true), ("InvalidReaders", true), ("InvalidPromises", true), ("InvalidEvents", true), ("InvalidOffers", true), ("InvalidDeeds", true), ("WrongName", false), ("UnknownName", false), ("NoAnswer", false), ("NoRule", false), ("NotReady", false), ("Broken", false), ("InUse", false), ("NothingToUndo", false)]) rfl)
  have ie_WrongName := isEB_ok (c.fact 112 (b := isEB "WrongName" [("WrongValue", false), ("InvalidText", false), ("InvalidName", false), ("InvalidView", false), ("InvalidKind", false), ("InvalidWish", false), ("InvalidIndex", false), ("InvalidNumber", false), ("InvalidLine", false), ("NotASetting", false), ("NotARun", false), ("NotARule", false), ("InvalidHouses", false), ("InvalidFails", false), ("InvalidReaders", false), ("InvalidPromises", false), ("InvalidEvents", false), ("InvalidOffers", false), ("InvalidDeeds", false), ("WrongName", true), ("UnknownName", true), ("NoAnswer", false), ("NoRule", false), ("NotReady", false), ("Broken", false), ("InUse", false), ("NothingToUndo", false)]) rfl)
  have ie_NoAnswer := isEB_ok (c.fact 113 (b := isEB "NoAnswer" [("WrongValue", false), ("InvalidText", false), ("InvalidName", false), ("InvalidView", false), ("InvalidKind", false), ("InvalidWish", false), ("InvalidIndex", false), ("InvalidNumber", false), ("InvalidLine", false), ("NotASetting", false), ("NotARun", false), ("NotARule", false), ("InvalidHouses", false), ("InvalidFails", false), ("InvalidReaders", false), ("InvalidPromises", false), ("InvalidEvents", false), ("InvalidOffers", false), ("InvalidDeeds", false), ("WrongName", false), ("UnknownName", false), ("NoAnswer", true), ("NoRule", true), ("NotReady", true), ("Broken", true), ("InUse", true), ("NothingToUndo", true)]) rfl)
  have ieb_ValueError := isEbB_ok (c.fact 114 (b := isEbB "ValueError" [("WrongValue", true), ("InvalidText", true), ("InvalidName", true), ("InvalidView", true), ("InvalidKind", true), ("InvalidWish", true), ("InvalidIndex", true), ("InvalidNumber", true), ("InvalidLine", true), ("NotASetting", true), ("NotARun", true), ("NotARule", true), ("InvalidHouses", true), ("InvalidFails", true), ("InvalidReaders", true), ("InvalidPromises", true), ("InvalidEvents", true), ("InvalidOffers", true), ("InvalidDeeds", true), ("WrongName", false), ("UnknownName", false), ("NoAnswer", false), ("NoRule", false), ("NotReady", false), ("Broken", false), ("InUse", false), ("NothingToUndo", false)]) rfl)
  have ieb_LookupError := isEbB_ok (c.fact 115 (b := isEbB "LookupError" [("WrongValue", false), ("InvalidText", false), ("InvalidName", false), ("InvalidView", false), ("InvalidKind", false), ("InvalidWish", false), ("InvalidIndex", false), ("InvalidNumber", false), ("InvalidLine", false), ("NotASetting", false), ("NotARun", false), ("NotARule", false), ("InvalidHouses", false), ("InvalidFails", false), ("InvalidReaders", false), ("InvalidPromises", false), ("InvalidEvents", false), ("InvalidOffers", false), ("InvalidDeeds", false), ("WrongName", true), ("UnknownName", true), ("NoAnswer", false), ("NoRule", false), ("NotReady", false), ("Broken", false), ("InUse", false), ("NothingToUndo", false)]) rfl)
  have ieb_ArithmeticError := isEbB_ok (c.fact 116 (b := isEbB "ArithmeticError" [("WrongValue", false), ("InvalidText", false), ("InvalidName", false), ("InvalidView", false), ("InvalidKind", false), ("InvalidWish", false), ("InvalidIndex", false), ("InvalidNumber", false), ("InvalidLine", false), ("NotASetting", false), ("NotARun", false), ("NotARule", false), ("InvalidHouses", false), ("InvalidFails", false), ("InvalidReaders", false), ("InvalidPromises", false), ("InvalidEvents", false), ("InvalidOffers", false), ("InvalidDeeds", false), ("WrongName", false), ("UnknownName", false), ("NoAnswer", true), ("NoRule", true), ("NotReady", true), ("Broken", true), ("InUse", true), ("NothingToUndo", true)]) rfl)
  obtain ⟨fd_l_jar, F_l_jar⟩ := c.def_ 0 (d := ⟨gaL "_law_jar", "_law_jar", "_law_jar", st_l_jar⟩) rfl
  have D_l_jar : ∀ base : Heap, FnD P w K mg base 1 (gaL "_law_jar" K) (spP K 2 m_l_jar) := fun base => ok_l_jar F_l_jar g_len g_int g_abs
  have G_l_jar : ∀ base : Heap, DefP P w K mg base 1 "_law_jar" 2 m_l_jar := fun base => ⟨_, He.glo_ok X G (c.fact 0 (b := faB (.glo "_law_jar")) rfl), D_l_jar base⟩
  obtain ⟨fd_l_given_errors, F_l_given_errors⟩ := c.def_ 1 (d := ⟨gaL "_law_given_errors", "_law_given_errors", "_law_given_errors", st_l_given_errors⟩) rfl
  have D_l_given_errors : ∀ base : Heap, FnD P w K mg base 3 (gaL "_law_given_errors" K) (spP K 1 m_l_given_errors) := fun base => ok_l_given_errors F_l_given_errors gx_InvalidText (xf_InvalidText base) (xk_InvalidText base) gx_InvalidName (xf_InvalidName base) (xk_InvalidName base) gx_InvalidView (xf_InvalidView base) (xk_InvalidView base) gx_InvalidKind (xf_InvalidKind base) (xk_InvalidKind base) gx_InvalidWish (xf_InvalidWish base) (xk_InvalidWish base) gx_InvalidIndex (xf_InvalidIndex base) (xk_InvalidIndex base) gx_InvalidNumber (xf_InvalidNumber base) (xk_InvalidNumber base) gx_InvalidLine (xf_InvalidLine base) (xk_InvalidLine base) gx_NotASetting (xf_NotASetting base) (xk_NotASetting base) gx_NotARun (xf_NotARun base) (xk_NotARun base) gx_NotARule (xf_NotARule base) (xk_NotARule base)
  have G_l_given_errors : ∀ base : Heap, DefP P w K mg base 3 "_law_given_errors" 1 m_l_given_errors := fun base => ⟨_, He.glo_ok X G (c.fact 1 (b := faB (.glo "_law_given_errors")) rfl), D_l_given_errors base⟩
  obtain ⟨fd_l_index_errors, F_l_index_errors⟩ := c.def_ 2 (d := ⟨gaL "_law_index_errors", "_law_index_errors", "_law_index_errors", st_l_index_errors⟩) rfl
  have D_l_index_errors : ∀ base : Heap, FnD P w K mg base 3 (gaL "_law_index_errors" K) (spP K 1 m_l_index_errors) := fun base => ok_l_index_errors F_l_index_errors gx_InvalidHouses (xf_InvalidHouses base) (xk_InvalidHouses base) gx_InvalidFails (xf_InvalidFails base) (xk_InvalidFails base) gx_InvalidReaders (xf_InvalidReaders base) (xk_InvalidReaders base) gx_InvalidPromises (xf_InvalidPromises base) (xk_InvalidPromises base) gx_InvalidEvents (xf_InvalidEvents base) (xk_InvalidEvents base) gx_InvalidOffers (xf_InvalidOffers base) (xk_InvalidOffers base) gx_InvalidDeeds (xf_InvalidDeeds base) (xk_InvalidDeeds base)
  have G_l_index_errors : ∀ base : Heap, DefP P w K mg base 3 "_law_index_errors" 1 m_l_index_errors := fun base => ⟨_, He.glo_ok X G (c.fact 2 (b := faB (.glo "_law_index_errors")) rfl), D_l_index_errors base⟩
  obtain ⟨fd_l_dip, F_l_dip⟩ := c.def_ 3 (d := ⟨gaL "_law_dip", "_law_dip", "_law_dip", st_l_dip⟩) rfl
  have D_l_dip : ∀ base : Heap, FnD P w K mg base 1 (gaL "_law_dip" K) (spI K 1 m_l_dip) := fun base => ok_l_dip F_l_dip g_divmod g_int
  have G_l_dip : ∀ base : Heap, DefI P w K mg base 1 "_law_dip" 1 m_l_dip := fun base => ⟨_, He.glo_ok X G (c.fact 3 (b := faB (.glo "_law_dip")) rfl), D_l_dip base⟩
  obtain ⟨fd_l_one_of, F_l_one_of⟩ := c.def_ 4 (d := ⟨gaL "_law_one_of", "_law_one_of", "_law_one_of", st_l_one_of⟩) rfl
  have D_l_one_of : ∀ base : Heap, FnD P w K mg base 2 (gaL "_law_one_of" K) (spI K 1 m_l_one_of) := fun base => ok_l_one_of F_l_one_of (G_l_dip base) g_len
  have G_l_one_of : ∀ base : Heap, DefI P w K mg base 2 "_law_one_of" 1 m_l_one_of := fun base => ⟨_, He.glo_ok X G (c.fact 4 (b := faB (.glo "_law_one_of")) rfl), D_l_one_of base⟩
  obtain ⟨fd_l_sorts, F_l_sorts⟩ := c.def_ 5 (d := ⟨gaL "_law_sorts", "_law_sorts", "_law_sorts", st_l_sorts⟩) rfl
  have D_l_sorts : ∀ base : Heap, FnD P w K mg base 1 (gaL "_law_sorts" K) (spP K 1 m_l_sorts) := fun base => ok_l_sorts F_l_sorts g_isinstance ecs gx_InvalidText ie_InvalidText gx_InvalidName ie_InvalidName gx_InvalidView ie_InvalidView gx_InvalidKind ie_InvalidKind gx_InvalidWish ie_InvalidWish gx_InvalidIndex ie_InvalidIndex gx_InvalidNumber ie_InvalidNumber gx_InvalidLine ie_InvalidLine gx_NotASetting ie_NotASetting gx_NotARun ie_NotARun gx_NotARule ie_NotARule gx_InvalidHouses ie_InvalidHouses gx_InvalidFails ie_InvalidFails gx_InvalidReaders ie_InvalidReaders gx_InvalidPromises ie_InvalidPromises gx_InvalidEvents ie_InvalidEvents gx_InvalidOffers ie_InvalidOffers gx_InvalidDeeds ie_InvalidDeeds gx_UnknownName ie_UnknownName gx_NoRule ie_NoRule gx_NotReady ie_NotReady gx_Broken ie_Broken gx_InUse ie_InUse gx_NothingToUndo ie_NothingToUndo gx_WrongValue ie_WrongValue gx_WrongName ie_WrongName gx_NoAnswer ie_NoAnswer g_ValueError ieb_ValueError g_LookupError ieb_LookupError g_ArithmeticError ieb_ArithmeticError g_range
  have G_l_sorts : ∀ base : Heap, DefP P w K mg base 1 "_law_sorts" 1 m_l_sorts := fun base => ⟨_, He.glo_ok X G (c.fact 5 (b := faB (.glo "_law_sorts")) rfl), D_l_sorts base⟩
  obtain ⟨fd_l_right, F_l_right⟩ := c.def_ 6 (d := ⟨gaL "_law_right", "_law_right", "_law_right", st_l_right⟩) rfl
  have D_l_right : ∀ base : Heap, FnD P w K mg base 4 (gaL "_law_right" K) (spI K 0 m_k01_l_right) := fun base => ok_l_right F_l_right (G_l_one_of base) (G_l_given_errors base) g_enumerate (G_l_sorts base) g_repr ecs nf_given (G_l_index_errors base) nf_index gx_UnknownName (xf_UnknownName base) (xk_UnknownName base) gx_NotReady (xf_NotReady base) (xk_NotReady base) gx_Broken (xf_Broken base) (xk_Broken base) gx_InUse (xf_InUse base) (xk_InUse base)
  have G_l_right : ∀ base : Heap, DefI P w K mg base 4 "_law_right" 0 m_k01_l_right := fun base => ⟨_, He.glo_ok X G (c.fact 6 (b := faB (.glo "_law_right")) rfl), D_l_right base⟩
  obtain ⟨fd_law, F_law⟩ := c.def_ 7 (d := ⟨gaL "law", "law", "law", st_law⟩) rfl
  refine ⟨_, fd_law, He.glo_ok X G (c.fact 7 (b := faB (.glo "law")) rfl), ?_, fun base => ?_⟩
  · have b := FunD.bindsA (ps := ["_law_cells"]) F_law fun _ _ _ _ _ _ us hl => match us, hl with | [_], _ => rfl
    exact fun s v => b s [v] rfl
  · exact ok_law F_law g_MOST_HOUSES g_MOST_FAILS g_MOST_READERS g_MOST_LEVELS g_MOST_LEVEL g_MOST_OFFERS g_MOST_NUMBER g_WRITER g_repr gx_NoRule xr_NoRule gx_NothingToUndo xr_NothingToUndo gx_WrongValue xr_WrongValue gx_WrongName xr_WrongName gx_NoAnswer xr_NoAnswer (G_l_sorts base) g_all g_len g_min g_max g_range (G_l_right base) (G_l_jar base)
theorem noLam {K : PySem.W.Frag} (c : SaysX faL fnL K) : lamK K = false := by
  have h := c.fact 117 (b := noLamB) rfl
  exact Bool.not_eq_true _ ▸ (by simpa [noLamB] using h)
end Law_k01
set_option maxHeartbeats 200000
namespace Mi
open PySem PySem.Spec PyProof.Rows L2 DD
def Jar (o : O) : Prop := ∃ a b c : Int, o = oL [.int a, .int b, .int c]
theorem dip_t {a b c top : Int} (ha : 0 < a) (ht : 0 < top) (ht2 : top < 1073741824) : m_l_dip (oL [.int a, .int b, .int c]) [.int top] = .ok (.int (a % top)) (oL [.int (a / top), .int b, .int (c + 1)]) := by
  simp [m_l_dip, mFunI, b_l_dip, startE, mOpL, gIx, ixN, finI, ha, ht, ht2]
theorem dip_f {a b c top : Int} (ha : ¬ 0 < a) (ht : 0 < top) : m_l_dip (oL [.int a, .int b, .int c]) [.int top] = .ok (.int ((b * 48271 + 20011 * (c + 1)) % 2147483399 / 512 % top)) (oL [.int a, .int ((b * 48271 + 20011 * (c + 1)) % 2147483399), .int (c + 1)]) := by
  simp [m_l_dip, mFunI, b_l_dip, startE, mOpL, gIx, ixN, finI, ha, ht]
theorem dip_ok {o : O} (h : Jar o) {top : Int} (ht : 0 < top) (ht2 : top < 1073741824) : ∃ (r : Nat) (o' : O), m_l_dip o [.int top] = .ok (.int (r : Nat)) o' ∧ Jar o' ∧ (r : Int) < top := by
  obtain ⟨a, b, c, rfl⟩ := h
  have key : ∀ x : Int, ∃ r : Nat, x % top = (r : Nat) ∧ (r : Int) < top := fun x => by
    have h1 := Int.emod_nonneg x (by omega : top ≠ 0)
    have h2 := Int.emod_lt_of_pos x ht
    exact ⟨(x % top).toNat, by omega, by omega⟩
  by_cases ha : 0 < a
  · obtain ⟨r, h1, h2⟩ := key a
    exact ⟨r, _, by rw [dip_t ha ht ht2, h1], ⟨_, _, _, rfl⟩, h2⟩
  · obtain ⟨r, h1, h2⟩ := key ((b * 48271 + 20011 * (c + 1)) % 2147483399 / 512)
    exact ⟨r, _, by rw [dip_f ha ht, h1], ⟨_, _, _, rfl⟩, h2⟩
theorem one_of_ok {o : O} (h : Jar o) {xs : List D} (h0 : 0 < xs.length) (h1 : xs.length < 1073741824) : ∃ (i : Nat) (hi : i < xs.length) (o' : O), m_l_one_of o [.lst xs] = .ok xs[i] o' ∧ Jar o' := by
  obtain ⟨r, o', e, j, hr⟩ := dip_ok h (top := (xs.length : Int)) (by omega) (by omega)
  have hr' : r < xs.length := by omega
  refine ⟨r, hr', o', ?_, j⟩
  simp [m_l_one_of, mFunI, b_l_one_of, startE, mCallI, finI, e, hr']
theorem jar_ok (ns : List Int) (t : Nat) : ∃ o, m_l_jar [.scr ns, .int t] = .oo o ∧ Jar o := by
  have hc : ∃ c : Int, (if t < ns.length then (ns[t]?).map D.int else some (.int (9 * t + 5))) = some (.int c) := by
    by_cases h : t < ns.length
    · exact ⟨ns[t], by simp [h]⟩
    · exact ⟨_, by simp [h]; rfl⟩
  obtain ⟨c, hc⟩ := hc
  -- the cell
  have h2 : (mIf (mTest (mOp ltD (mVar 1) (mCB lenD (mCons (mVar 0) mNil)))) (mOp getD (mVar 0) (mVar 1)) (mOp addD (mOp mulD (mC (.int 9)) (mVar 1)) (mC (.int 5)))) [some (.d (.scr ns)), some (.d (.int t)), none, none, none] = .ok (.int c) [some (.d (.scr ns)), some (.d (.int t)), none, none, none] := by
    by_cases h : t < ns.length
    · simp only [h, if_true] at hc
      simp [h, hc]
      simpa [h] using hc
    · simp only [h, if_false] at hc
      simp [h]
      simpa using hc
  let E : Int → Option O → DEnv := fun m v => [some (.d (.scr ns)), some (.d (.int t)), some (.d (.int c)), some (.d (.int m)), v]
  obtain ⟨e, h3, -, m, v, rfl⟩ := forM_inv (tg := gV 4) (body := mSet 3 (mOp modD (mCB intD (mCons (mOp addD (mOp mulD (mVar 3) (mC (.int 31337))) (mVar 4)) mNil)) (mC (.int 2147483249))))
    (fun ds env => (∀ d ∈ ds, ∃ i : Int, d = .int i) ∧ ∃ m v, env = E m v) (fun d ds env hI => by
      obtain ⟨h1, m, v, rfl⟩ := hI
      obtain ⟨i, rfl⟩ := h1 d List.mem_cons_self
      exact ⟨_, E ((m * 31337 + i) % 2147483249) (some (.d (.int i))), rfl, .inl (by simp [E]), fun x hx => h1 x (List.mem_cons_of_mem _ hx), _, _, rfl⟩)
    ((ns.map D.int).take 5 ++ [.int c]) (E (50023 + 7013 * t) none) ⟨fun d hd => by
      rcases List.mem_append.mp hd with hd | hd
      · obtain ⟨i, _, rfl⟩ := List.mem_map.mp (List.mem_of_mem_take hd)
        exact ⟨i, rfl⟩
      · exact ⟨c, List.mem_singleton.mp hd⟩, _, _, rfl⟩
  have hl : min 5 ns.length + 1 ≤ 16777216 := by omega
  have s1 : m_l_jar [.scr ns, .int t] = finP (b_l_jar [some (.d (.scr ns)), some (.d (.int t)), none, none, none]) := rfl
  have h5 : cutD ns none (some 5) = ns.take 5 := v_cut0 (b := 5)
  rw [s1]
  unfold b_l_jar
  simp only [e_seq, e_set, h2, Rs.on_ok, andThen_nx, List.set_cons_zero, List.set_cons_succ]
  simp [h5, hl, size_e]
  rw [show ([some (O.d (D.scr ns)), some (O.d (D.int t)), some (O.d (D.int c)), some (O.d (D.int (50023 + 7013 * t))), none] : DEnv) = E (50023 + 7013 * t) none from rfl, h3]
  by_cases hh : c < 0 ∨ 1000000000000000000 ≤ c
  · refine ⟨oL [.int (if c < 0 then -c else c), .int m, .int 0], ?_, _, _, _, rfl⟩
    rcases hh with hh | hh
    · simp [E, hh, finP, size_e]
    · simp [E, hh, finP, size_e, show ¬ c < 0 by omega]
  · refine ⟨oL [.int 0, .int m, .int 0], ?_, _, _, _, rfl⟩
    simp [E, finP, size_e, show ¬ c < 0 by omega, show ¬ 1000000000000000000 ≤ c by omega]
end Mi
namespace Mi
open PySem PySem.Spec PyProof.Rows L2 DD
abbrev okS (x : Str) : Prop := PyData.canLay0 (.str x) = true
def sl (xs : List Str) : List D := xs.map D.str
end Mi
namespace Mi
open PySem DD
def Nm (x : Str) : Prop := m_is_client_name [.str x] = .ok (.bl true) ∧ okS x
end Mi
namespace Mi
open PySem DD
def tl (fs : List (List Str)) : List D := fs.map fun l => .tup (sl l)
def pl (ps : List (Str × Str)) : List D := ps.map fun p => .tup [.str p.1, .str p.2]
structure Fr (hs : List Str) (fs : List (List Str)) (rs : List Str) (ps : List (Str × Str)) : Prop where
  nh : ∀ x ∈ hs, Nm x
  nr : ∀ x ∈ rs, Nm x
  ndh : hs.Nodup
  ndr : rs.Nodup
  dis : ∀ x ∈ rs, x ∉ hs
  h0 : hs ≠ []
  f0 : fs ≠ []
  r0 : rs ≠ []
  hl : hs.length ≤ 8
  rl : rs.length ≤ 5
  fl : fs.length ≤ 8
  sub : ∀ l ∈ fs, l.Sublist hs
  ndf : fs.Nodup
  pm : ∀ p ∈ ps, p.1 ∈ rs ∧ p.2 ∈ rs ∧ p.1 ≠ p.2
  ndp : ps.Nodup
end Mi
namespace Mi
open PySem DD
def ext (rs : List Str) (rows : List (List Str)) : List (List Str) := rows.flatMap fun row => (rs.filter fun t => decide (t ∉ row)).map fun t => row ++ [t]
def rowsN (rs : List Str) : Nat → List (List Str)
  | 0 => [[]]
  | k + 1 => ext rs (rowsN rs k)
def upTo (f : Nat → List (List Str)) : Nat → List (List Str)
  | 0 => []
  | k + 1 => upTo f k ++ f (k + 1)
def good (ps : List (Str × Str)) : List Str → Bool
  | a :: b :: r => decide ((a, b) ∈ ps) && good ps (b :: r)
  | _ => true
theorem pigeon : ∀ {xs ys : List Str}, xs.Nodup → (∀ x ∈ xs, x ∈ ys) → xs.length ≤ ys.length
  | [], ys, _, _ => Nat.zero_le _
  | x :: xs, ys, nd, h => by
    obtain ⟨h1, h2⟩ := List.nodup_cons.mp nd
    have hx : x ∈ ys := h x List.mem_cons_self
    have := pigeon (xs := xs) (ys := ys.erase x) h2 fun y hy => (List.mem_erase_of_ne fun e => h1 (by rw [← e]; exact hy)).mpr (h y (List.mem_cons_of_mem _ hy))
    rw [List.length_erase_of_mem hx] at this
    have hp : 0 < ys.length := List.length_pos_of_mem hx
    rw [List.length_cons]
    omega
/-- the chains of one length: the good rows -/
def chN (rs : List Str) (ps : List (Str × Str)) (k : Nat) : List (List Str) := (rowsN rs k).filter (good ps)
end Mi
namespace Mi
open PySem DD
end Mi
namespace Mi
open PySem DD
end Mi
namespace Mi
open PySem DD
end Mi
namespace Mi
open PySem PySem.Spec PyProof.Rows L2 DD
end Mi
namespace Mi
open PySem DD
end Mi
namespace Mi
open PySem DD
end Mi
namespace Mi
open PySem DD
end Mi
namespace Mi
open PySem DD
end Mi
namespace Mi
open PySem DD
end Mi
namespace Mi
open PySem DD
end Mi
namespace Mi
open PySem DD
def gK (row : List Str) (ps : List (Str × Str)) : D → D
  | .int i => .bl (decide ((row.getD i.toNat "", row.getD (i.toNat + 1) "") ∈ ps))
  | _ => .non
end Mi
namespace Mi
open PySem DD
end Mi
namespace Mi
open PySem DD
end Mi
namespace DD
open PySem PySem.Spec PyProof.Rows L2
/-- a comprehension of one clause over one name -/
theorem lc_pure {α : Type} {i : Nat} {it : MA} {tst : MB} {elt : MD} {env : DEnv} (c : α → D) (xs : List α) (p : α → Bool) (g : α → D) (hi : it env = .ok (xs.map c) env) (hl : xs.length < 16777216) (hn : i < env.length)
    (ht : ∀ x ∈ xs, tst (env.set i (some (.d (c x)))) = .ok (p x) (env.set i (some (.d (c x)))))
    (he : ∀ x ∈ xs, p x = true → elt (env.set i (some (.d (c x)))) = .ok (g x) (env.set i (some (.d (c x))))) : mLc it (gV i) tst elt [i] env = .ok (.lst ((xs.filter p).map g)) (env.set i none) := by
  have key : ∀ (ys : List α), (∀ y ∈ ys, y ∈ xs) → lcM (gV i) tst elt [i] (ys.map c) (env.set i none) = .ok ((ys.filter p).map g) (env.set i none) := by
    intro ys
    induction ys with
    | nil => intro _; rfl
    | cons y ys ih =>
      intro hy
      have ih := ih fun z hz => hy z (List.mem_cons_of_mem _ hz)
      have h1 := ht y (hy y List.mem_cons_self)
      have back : wipeE (env.set i (some (.d (c y)))) [i] = env.set i none := by
        show ((env.set i (some (.d (c y)))).set i none) = _
        rw [List.set_set]
      rw [List.map_cons]
      unfold lcM
      simp only [gV, List.set_set, h1]
      cases hp : p y with
      | true =>
        simp only [he y (hy y List.mem_cons_self) hp, back, ih, Rs.bind_ok, List.filter_cons, hp, if_true, List.map_cons]
      | false =>
        simp only [back, ih, List.filter_cons, hp, Bool.false_eq_true, if_false]
  rw [e_lc, e_lcs, hi, Rs.bind_ok, size_e, if_pos ⟨by rw [List.length_map]; exact hl, by simp [hn]⟩, e_wipe1, e_wipe0, key xs fun _ h => h]
  rfl
/-- without a test -/
theorem lc_map {α : Type} {i : Nat} {it : MA} {elt : MD} {env : DEnv} (c : α → D) (xs : List α) (g : α → D) (hi : it env = .ok (xs.map c) env) (hl : xs.length < 16777216) (hn : i < env.length)
    (he : ∀ x ∈ xs, elt (env.set i (some (.d (c x)))) = .ok (g x) (env.set i (some (.d (c x))))) : mLc it (gV i) mYes elt [i] env = .ok (.lst (xs.map g)) (env.set i none) := by
  have := lc_pure (tst := mYes) c xs (fun _ => true) g hi hl hn (fun _ _ => rfl) fun x hx _ => he x hx
  rwa [List.filter_eq_self.mpr fun _ _ => rfl] at this
theorem bools_maps {α : Type} (f : α → Bool) : ∀ ks : List α, bools (ks.map fun k => .bl (f k)) = some (ks.map f)
  | [] => rfl
  | k :: ks => by
    show (bools (ks.map fun k => .bl (f k))).map _ = _
    rw [bools_maps f ks]
    rfl
theorem v_all {α : Type} (f : α → Bool) (ks : List α) : allD [.lst (ks.map fun k => .bl (f k))] = some (.bl (ks.all f)) := by
  show (bools _).map _ = _
  rw [bools_maps, Option.map_some, List.all_map]
  rfl
@[simp] theorem e_rng3 {as : MA} {env : DEnv} : mRng3 as env = (as env).bind fun xs e => ofO (rngD3 xs) e := id rfl
/-- a call, as a step on results -/
def asP : RP → DEnv → Rs D
  | .ok d, e => .ok d e
  | .exc x, e => .exc x e
  | _, _ => .fail
@[simp] theorem asP_ok {d : D} {e : DEnv} : asP (.ok d) e = .ok d e := rfl
@[simp] theorem asP_exc {x : Exn} {e : DEnv} : asP (.exc x) e = .exc x e := rfl
end DD
namespace Mi
open PySem DD
def falls (fs : List (List Str)) (l : List Str) : Bool := fs.any fun part => l.all fun h => decide (h ∈ part)
def parts : List Str → List (List Str) → List (List Str)
  | [], acc => acc
  | h :: t, acc => parts t (acc ++ acc.map fun p => p ++ [h])
theorem parts_length : ∀ (hs : List Str) (acc : List (List Str)), (parts hs acc).length = acc.length * 2 ^ hs.length
  | [], acc => by simp [parts]
  | h :: t, acc => by
    rw [parts, parts_length t, List.length_append, List.length_map, List.length_cons, Nat.pow_succ, Nat.mul_comm (2 ^ t.length) 2, ← Nat.mul_assoc]
    congr 1
    omega
end Mi
namespace Mi
open PySem DD
end Mi
namespace Mi
open PySem DD
/-- how many views there are -/
def cv (hs : List Str) (fs : List (List Str)) (r : Nat) : Nat := (((parts hs [[]]).filter (falls fs)).map fun p => r ^ (hs.length - p.length)).sum
end Mi
namespace Mi
open PySem DD
end Mi
namespace Mi
open PySem DD
end Mi
namespace Mi
open PySem DD
def insP (pp : List (List Str)) (x : List Str) : List (List Str) := if x ∈ pp then pp else pp ++ [x]
def joinP (hs p l : List Str) : List Str := hs.filter fun h => decide (h ∈ p) || decide (h ∈ l)
/-- no set twice, all of houses -/
structure Gd (hs : List Str) (pp : List (List Str)) : Prop where
  nd : pp.Nodup
  sub : ∀ x ∈ pp, x.Sublist hs
theorem pigeonG {α : Type} : ∀ {xs ys : List α}, xs.Nodup → (∀ x ∈ xs, x ∈ ys) → xs.length ≤ ys.length
  | [], _, _, _ => Nat.zero_le _
  | x :: xs, ys, nd, h => by
    classical
    obtain ⟨n1, n2⟩ := List.nodup_cons.mp nd
    have hx := h x List.mem_cons_self
    have ih := pigeonG (xs := xs) (ys := ys.erase x) n2 fun y hy => (List.mem_erase_of_ne (a := y) (b := x) fun e => n1 (by rw [← e]; exact hy)).mpr (h y (List.mem_cons_of_mem _ hy))
    rw [List.length_erase_of_mem hx] at ih
    have := List.length_pos_of_mem hx
    rw [List.length_cons]
    omega
theorem parts_all : ∀ {hs s : List Str}, s.Sublist hs → ∀ (acc : List (List Str)) (q : List Str), q ∈ acc → q ++ s ∈ parts hs acc
  | _, _, .slnil, acc, q, h => by rw [List.append_nil]; exact h
  | h :: t, s, .cons _ d, acc, q, hq => parts_all d _ q (List.mem_append_left _ hq)
  | h :: t, _ :: s, .cons₂ _ d, acc, q, hq => by
    have := parts_all d (acc ++ acc.map fun p => p ++ [h]) (q ++ [h]) (List.mem_append_right _ (List.mem_map.mpr ⟨q, hq, rfl⟩))
    rw [List.append_assoc] at this
    exact this
theorem Gd.length {hs : List Str} {pp : List (List Str)} (g : Gd hs pp) (h : hs.length ≤ 8) : pp.length ≤ 256 := by
  have h1 := pigeonG g.nd (ys := parts hs [[]]) fun x hx => parts_all (g.sub x hx) [[]] [] (by simp)
  rw [parts_length] at h1
  have : 2 ^ hs.length ≤ 2 ^ 8 := Nat.pow_le_pow_right (by omega) h
  have h8 : 2 ^ 8 = 256 := by decide
  simp at h1
  omega
theorem insP_mem {pp : List (List Str)} {x y : List Str} : y ∈ insP pp x ↔ y ∈ pp ∨ y = x := by
  unfold insP
  by_cases q : x ∈ pp
  · rw [if_pos q]
    exact ⟨.inl, fun h => h.elim id fun e => e ▸ q⟩
  · rw [if_neg q]
    simp
theorem Gd.ins {hs : List Str} {pp : List (List Str)} {x : List Str} (g : Gd hs pp) (h : x.Sublist hs) : Gd hs (insP pp x) := by
  refine ⟨?_, fun y hy => ?_⟩
  · unfold insP
    by_cases q : x ∈ pp
    · rw [if_pos q]; exact g.nd
    · rw [if_neg q]
      rw [List.nodup_append]
      exact ⟨g.nd, by simp, fun a ha b hb e => q (by rw [List.mem_singleton.mp hb] at e; exact e ▸ ha)⟩
  · rcases insP_mem.mp hy with hy | rfl
    · exact g.sub y hy
    · exact h
def growL (hs : List Str) (fs : List (List Str)) (p : List Str) (s : List (List Str)) : List (List Str) := fs.foldl (fun s l => insP s (joinP hs p l)) s
def growP (hs : List Str) (fs pp : List (List Str)) : List (List Str) := pp.foldl (fun s p => growL hs fs p s) pp
/-- what up to k lots have together -/
def PN (hs : List Str) (fs : List (List Str)) : Nat → List (List Str)
  | 0 => [[]]
  | k + 1 => growP hs fs (PN hs fs k)
def un (hs : List Str) (L : List (List Str)) : List Str := hs.filter fun h => L.any fun l => decide (h ∈ l)
/-- whether up to k lots have all houses -/
def tC (hs : List Str) (fs : List (List Str)) (k : Nat) : Bool := (PN hs fs k).any fun p => hs.all fun h => decide (h ∈ p)
end Mi
namespace DD
open PySem PySem.Spec PyProof.Rows L2
end DD
namespace Mi
open PySem DD
end Mi
namespace Mi
open PySem DD
def bitsB (q : Str → Bool) : List Str → Nat
  | [] => 0
  | h :: t => (if q h = true then 1 else 0) + 2 * bitsB q t
/-- the number of what lots have together -/
def bL (hs : List Str) (L : List (List Str)) : Nat := bitsB (fun h => L.any fun l => decide (h ∈ l)) hs
end Mi
namespace Mi
open PySem DD
def iN (ns : List Nat) : List D := ns.map fun n => D.int (n : Nat)
end Mi
namespace Mi
open PySem DD
def insN (s : List Nat) (x : Nat) : List Nat := if x ∈ s then s else s ++ [x]
theorem insN_mem {s : List Nat} {x y : Nat} : y ∈ insN s x ↔ y ∈ s ∨ y = x := by
  unfold insN
  by_cases q : x ∈ s
  · rw [if_pos q]
    exact ⟨.inl, fun h => h.elim id fun e => e ▸ q⟩
  · rw [if_neg q]
    simp
structure GdN (B : Nat) (s : List Nat) : Prop where
  nd : s.Nodup
  lt : ∀ x ∈ s, x < B
theorem GdN.ins {B : Nat} {s : List Nat} {x : Nat} (g : GdN B s) (h : x < B) : GdN B (insN s x) := by
  refine ⟨?_, fun y hy => ?_⟩
  · unfold insN
    by_cases q : x ∈ s
    · rw [if_pos q]; exact g.nd
    · rw [if_neg q, List.nodup_append]
      exact ⟨g.nd, by simp, fun a ha b hb e => q (by rw [List.mem_singleton.mp hb] at e; exact e ▸ ha)⟩
  · rcases insN_mem.mp hy with hy | rfl
    · exact g.lt y hy
    · exact h
theorem GdN.length {B : Nat} {s : List Nat} (g : GdN B s) : s.length ≤ B := by
  have := pigeonG g.nd (ys := List.range B) fun x hx => List.mem_range.mpr (g.lt x hx)
  rwa [List.length_range] at this
end Mi
namespace Mi
open PySem DD
end Mi
namespace Mi
open PySem DD
def chS (rs : List Str) (ps : List (Str × Str)) : List (List Str) := upTo (chN rs ps) rs.length
section
variable {hs : List Str} {fs : List (List Str)} {rs : List Str} {ps : List (Str × Str)}
theorem oks (F : Fr hs fs rs ps) : (∀ x ∈ hs, okS x) ∧ (∀ x ∈ rs, okS x) ∧ (∀ p ∈ ps, okS p.1 ∧ okS p.2) ∧ ∀ l ∈ fs, ∀ x ∈ l, okS x := by
  have oh : ∀ x ∈ hs, okS x := fun x hx => (F.nh x hx).2
  have or : ∀ x ∈ rs, okS x := fun x hx => (F.nr x hx).2
  exact ⟨oh, or, fun p hp => ⟨or _ (F.pm p hp).1, or _ (F.pm p hp).2.1⟩, fun l hl x hx => oh x ((F.sub l hl).subset hx)⟩
end
end Mi
namespace Mi
open PySem DD
abbrev Kn := List (Nat × List Nat)
def insK (s : Kn) (u : Nat) (ix : List Nat) : Kn := if u ∈ s.map (·.1) then s else s ++ [(u, ix)]
/-- what must hold of such a table -/
structure GdK (B : Nat) (s : Kn) : Prop where
  nd : (s.map (·.1)).Nodup
  lt : ∀ p ∈ s, p.1 < B
theorem GdK.length {B : Nat} {s : Kn} (g : GdK B s) : s.length ≤ B := by
  have h : GdN B (s.map (·.1)) := ⟨g.nd, fun x hx => by
    obtain ⟨p, h1, rfl⟩ := List.mem_map.mp hx
    exact g.lt p h1⟩
  have := h.length
  rwa [List.length_map] at this
theorem GdK.ins {B : Nat} {s : Kn} {u : Nat} {ix : List Nat} (g : GdK B s) (h : u < B) : GdK B (insK s u ix) := by
  unfold insK
  by_cases q : u ∈ s.map (·.1)
  · rw [if_pos q]; exact g
  · rw [if_neg q]
    refine ⟨?_, fun p hp => ?_⟩
    · rw [List.map_append, List.nodup_append]
      exact ⟨g.nd, by simp, fun a ha b hb e => q (by rw [show b = u from List.mem_singleton.mp hb] at e; exact e ▸ ha)⟩
    · rcases List.mem_append.mp hp with hp | hp
      · exact g.lt p hp
      · rw [List.mem_singleton.mp hp]; exact h
end Mi
namespace Mi
open PySem DD
end Mi
namespace Mi
open PySem DD
section
variable {hs : List Str} {fs : List (List Str)}
def lot (fs : List (List Str)) (i : Nat) : List Str := fs[i]?.getD []
end
end Mi
namespace Mi
open PySem DD
end Mi
namespace Mi
open PySem DD
end Mi
namespace Mi
open PySem DD
end Mi
namespace Mi
open PySem DD
section
variable {hs : List Str} {fs : List (List Str)} {rs : List Str} {ps : List (Str × Str)}
def tS (p : List Str) : D := .tup (sl p)
variable {kd : List D}
abbrev Vw := List (Str × List Str)
structure VOk (vw : Vw) : Prop where
  len : vw.length ≤ 8
  row : ∀ p ∈ vw, okS p.1 ∧ p.2.Nodup ∧ p.2.length ≤ 10 ∧ ∀ x ∈ p.2, okS x
def needN (vw : Vw) (t : List Str) : List Str := (vw.filter fun p => !decide (t.Sublist p.2)).map (·.1)
def needH (vw : Vw) (x : Str) : List Str := (vw.filter fun p => decide (x ∈ p.2)).map (·.1)
end
end Mi
namespace Mi
open PySem DD
abbrev LL := List (List Str)
def covN (N : List Str) (L : LL) : Prop := ∀ h ∈ N, ∃ l ∈ L, h ∈ l
def stepS (fs : LL) (S : LL → Prop) : LL → Prop := fun L => ∃ L' l, L = L' ++ [l] ∧ S L' ∧ l ∈ fs
def onlyS (N : List Str) (S : LL → Prop) : LL → Prop := fun L => S L ∧ covN N L
def S0 : LL → Prop := fun L => L = []
section
variable {hs : List Str} {fs : List (List Str)} {rs : List Str} {ps : List (Str × Str)}
/-- what the program keeps -/
structure PK (hs : List Str) (fs : LL) (kn : Kn) (S : LL → Prop) (n : Nat) : Prop where
  gd : GdK (2 ^ hs.length) kn
  ix : ∀ p ∈ kn, p.2.length = n ∧ (∀ i ∈ p.2, i < fs.length) ∧ p.1 = bL hs (p.2.map (lot fs)) ∧ S (p.2.map (lot fs))
  all : ∀ L, S L → bL hs L ∈ kn.map (·.1)
/-- what the law keeps -/
structure LK (hs : List Str) (fs : LL) (kn : LL) (S : LL → Prop) : Prop where
  sub : ∀ p ∈ kn, p.Sublist hs
  len : kn.length ≤ 256
  mem : ∀ x, x ∈ kn ↔ ∃ L, S L ∧ x = un hs L
theorem LK.ne {kn : LL} {S : LL → Prop} (P : LK hs fs kn S) : kn ≠ [] ↔ ∃ L, S L := by
  constructor
  · intro h
    obtain ⟨x, hx⟩ := List.exists_mem_of_ne_nil _ h
    obtain ⟨L, h1, _⟩ := (P.mem x).mp hx
    exact ⟨L, h1⟩
  · rintro ⟨L, h1⟩ e
    have := (P.mem _).mpr ⟨L, h1, rfl⟩
    rw [e] at this
    cases this
theorem PK.ne {kn : Kn} {S : LL → Prop} {n : Nat} (P : PK hs fs kn S n) : kn ≠ [] ↔ ∃ L, S L := by
  constructor
  · intro h
    obtain ⟨x, hx⟩ := List.exists_mem_of_ne_nil _ h
    exact ⟨_, (P.ix x hx).2.2.2⟩
  · rintro ⟨L, h1⟩ e
    have := P.all L h1
    rw [e] at this
    cases this
def SNs (fs : LL) (Ns : List (List Str)) : LL → Prop := Ns.foldl (fun S N => onlyS N (stepS fs S)) S0
def SOs (fs : LL) (Ns : List (List Str)) : LL → Prop := Ns.foldl (fun S N => stepS fs (onlyS N S)) S0
variable (F : Fr hs fs rs ps)
include F
end
end Mi
namespace Mi
open PySem DD
section
variable {hs : List Str} {fs : List (List Str)} {rs : List Str} {ps : List (Str × Str)}
def newNs (vw : Vw) (folk : List Str) : List (List Str) := (List.range folk.length).map fun k => needN vw (folk.drop (folk.length - 1 - k))
theorem ow : okS "w" := by decide +kernel
variable (F : Fr hs fs rs ps) (hw : ("w" : Str) ∉ rs) {vw : Vw} (V : VOk vw) (hsub : (vw.map (·.1)).Sublist hs) {a : Str} (oa : okS a)
include F hw V hsub oa
end
end Mi
namespace Mi
open PySem DD
end Mi
namespace Mi
open PySem DD
section
variable {hs : List Str} {fs : List (List Str)} {rs : List Str} {ps : List (Str × Str)}
/-- what shows that a view must be new -/
def NewW (fs : LL) (rs : List Str) (ps : List (Str × Str)) (vw : Vw) (a : Str) (r : D) : Prop := ∃ c ∈ chS rs ps, c.getLast? = some a ∧ ∃ ix : List Nat, r = .tup [tS c.dropLast, .tup (iN ix.reverse)] ∧ SNs fs (newNs vw ("w" :: c.dropLast)) (ix.map (lot fs)) ∧ (∀ i ∈ ix, i < fs.length) ∧ ix.length = c.length
def OldW (fs : LL) (rs : List Str) (ps : List (Str × Str)) (vw : Vw) (a : Str) (r : D) : Prop := ∃ c ∈ chS rs ps, c.head? = some a ∧ ∃ ix : List Nat, r = .tup [tS (c.drop 1), .tup (iN ix)] ∧ onlyS (needH vw "w") (SOs fs ((c.drop 1).map (needH vw))) (ix.map (lot fs)) ∧ (∀ i ∈ ix, i < fs.length) ∧ ix.length = c.length - 1
variable (F : Fr hs fs rs ps)
include F
variable (hw : ("w" : Str) ∉ rs) {vw : Vw} (V : VOk vw) (hsub : (vw.map (·.1)).Sublist hs) {a : Str} (oa : okS a)
include hw V hsub oa
theorem NewW.some {r : D} (h : NewW fs rs ps vw a r) : isNonB r = false := by
  obtain ⟨c, _, _, ix, rfl, _⟩ := h
  rfl
theorem OldW.some {r : D} (h : OldW fs rs ps vw a r) : isNonB r = false := by
  obtain ⟨c, _, _, ix, rfl, _⟩ := h
  rfl
end
end Mi
namespace Mi
open PySem DD
section
variable {hs : List Str} {fs : List (List Str)} {rs : List Str} {ps : List (Str × Str)}
structure View (hs : List Str) (fs : LL) (rs : List Str) (a : Str) (vw : Vw) : Prop where
  sub : (vw.map (·.1)).Sublist hs
  fall : ∃ l ∈ fs, ∀ h ∈ hs, h ∉ vw.map (·.1) → h ∈ l
  row : ∀ p ∈ vw, p.2.Nodup ∧ ∀ x ∈ p.2, (x = "w" ∨ x ∈ rs) ∧ x ≠ a
theorem View.ok (F : Fr hs fs rs ps) {a : Str} {vw : Vw} (W : View hs fs rs a vw) : VOk vw := by
  obtain ⟨oh, or, op, of⟩ := oks F
  refine ⟨?_, fun p hp => ?_⟩
  · have := W.sub.length_le
    rw [List.length_map] at this
    have := F.hl
    omega
  · obtain ⟨h1, h2⟩ := W.row p hp
    have h3 : p.2.length ≤ ("w" :: rs : List Str).length := pigeon h1 fun x hx => by
      rcases (h2 x hx).1 with e | e
      · rw [e]; exact List.mem_cons_self
      · exact List.mem_cons_of_mem _ e
    rw [List.length_cons] at h3
    have := F.rl
    refine ⟨oh _ (W.sub.subset (List.mem_map.mpr ⟨p, hp, rfl⟩)), h1, by omega, fun x hx => ?_⟩
    rcases (h2 x hx).1 with e | e
    · rw [e]; exact ow
    · exact or x e
variable (F : Fr hs fs rs ps) {a : Str} (ha : a ∈ rs) {vw : Vw} (W : View hs fs rs a vw)
include F ha W
end
end Mi
namespace Mi
open PySem DD
theorem callI {f : O → List D → RI} {m : MA} {env e : DEnv} {ds : List D} {u o o' : O} {d : D} {i : Nat} (h0 : env[i]? = some (some u)) (hm : m env = .ok ds e) (h1 : e[i]? = some (some o)) (hf : f o ds = .ok d o') : mCallI i f m env = .ok d (e.set i (some o')) := by
  unfold mCallI
  simp only [h0, hm, Rs.bind_ok, h1, hf]
theorem one_at {o : O} (j : Jar o) {env : DEnv} (h0 : env[0]? = some (some o)) {mt : MD} {xs : List D} (hm : mt env = .ok (.lst xs) env) (h1 : 0 < xs.length) (h2 : xs.length < 1073741824) : ∃ (x : D) (o' : O), x ∈ xs ∧ Jar o' ∧ (mCallI 0 m_l_one_of (mCons mt mNil)) env = .ok x (env.set 0 (some o')) := by
  obtain ⟨i, hi, o', e, j'⟩ := one_of_ok j h1 h2
  exact ⟨xs[i], o', List.getElem_mem hi, j', callI (ds := [.lst xs]) (e := env) h0 (by simp only [e_cons, hm, Rs.bind_ok, e_nil]) h0 e⟩
inductive Sel {α β : Type} (P : α → Bool → Prop) (Q : α → β → Prop) : List α → List β → Prop
  | nil : Sel P Q [] []
  | skip {x : α} {xs : List α} {ys : List β} : P x false → Sel P Q xs ys → Sel P Q (x :: xs) ys
  | take {x : α} {y : β} {xs : List α} {ys : List β} : P x true → Q x y → Sel P Q xs ys → Sel P Q (x :: xs) (y :: ys)
theorem Sel.same {α : Type} {P : α → Bool → Prop} : ∀ {xs ys : List α}, Sel P (fun x y => y = x) xs ys → ys.Sublist xs
  | _, _, .nil => List.Sublist.slnil
  | _, _, .skip _ h => List.Sublist.cons _ h.same
  | _, _, .take _ e h => by
    subst e
    exact List.Sublist.cons₂ _ h.same
end Mi
set_option maxHeartbeats 4000000
namespace Mi
open PySem DD
def x01 : List D := [.non, .int 0, .int (-3), .bl true, .str "a", .str "", .tup [], .tup [.int 1, .int 2], .lst [], .lst [.int 7], .dct [] [], .dct [.inr "a"] [.int 1], .int (10 ^ 30), .tup [.str "end", .int 3]]
theorem right_pre : ∃ (M : MD) (R : MS), b_k01_l_right = mSeq (mSet 1 (mCallI 0 m_l_one_of (mCons M mNil))) R ∧ (∀ o : O, M [some o, none, none, none, none] = .ok (.lst x01) [some o, none, none, none, none]) ∧ ∀ x ∈ x01, ∀ o : O, finI (R [some o, some (.d x), none, none, none]) = .ok (.bl true) o := by
  refine ⟨_, _, rfl, fun o => by kernel_rfl, fun x hx o => ?_⟩
  unfold x01 at hx
  simp only [List.mem_cons, List.not_mem_nil, or_false] at hx
  rcases hx with rfl | rfl | rfl | rfl | rfl | rfl | rfl | rfl | rfl | rfl | rfl | rfl | rfl | rfl <;> kernel_rfl
theorem right01 {o : O} (j : Jar o) : ∃ o', m_k01_l_right o [] = .ok (.bl true) o' := by
  obtain ⟨M, R, e, m, r⟩ := right_pre
  have hb : m_k01_l_right o [] = finI (b_k01_l_right [some o, none, none, none, none]) := rfl
  rw [hb, e]
  obtain ⟨x, o', hx, j', e1⟩ := one_at j (env := [some o, none, none, none, none]) rfl (m o) (by show 0 < 14; omega) (by show 14 < _; omega)
  refine ⟨o', ?_⟩
  have s1 : (mSet 1 (mCallI 0 m_l_one_of (mCons M mNil))) [some o, none, none, none, none] = .nx [some o', some (.d x), none, none, none] := by
    rw [e_set, e1]
    rfl
  rw [e_seq, s1, andThen_nx]
  exact r x hx o'
def l01 : D := .lst [.int 8, .int 8, .int 5, .int 5, .int 8, .int 6, .int (10 ^ 30), .str "w"]
def e01 : D := .lst [.exn "NoRule" [] [], .exn "NothingToUndo" [] [], .exn "WrongValue" [] [], .exn "WrongName" [] [], .exn "NoAnswer" [] []]
theorem law_pre : ∃ (A B C E : MS), b_k01_law = mSeq A (mSeq B (mSeq C (mSeq E (mRet (mCB allD (mCons (mLc (mRng (mCons (mCB max2D (mCons (mC (.int 2)) (mCons (mCB min2D (mCons (mCB lenD (mCons (mVar 0) mNil)) (mCons (mC (.int 6)) mNil))) mNil))) mNil)) (gV 4) mYes (mCallE m_k01_l_right (mCallO m_l_jar (mCons (mVar 0) (mCons (mVar 4) mNil))) mNil) [4]) mNil)))))) ∧
    ∀ (ns : List Int) (L : MS), mSeq A (mSeq B (mSeq C (mSeq E L))) [some (.d (.scr ns)), none, none, none, none] = L [some (.d (.scr ns)), some (.d l01), some (.d e01), none, none] :=
  ⟨_, _, _, _, rfl, fun ns L => by kernel_rfl⟩
theorem k01_law_true (ns : List Int) (hn : ns.length ≤ 63) : m_k01_law [.scr ns] = .ok (.bl true) := by
  obtain ⟨A, B, C, E, e, p⟩ := law_pre
  have hb : m_k01_law [.scr ns] = finP (b_k01_law [some (.d (.scr ns)), none, none, none, none]) := rfl
  rw [hb, e, p]
  generalize hk : max 2 (min ns.length 6) = n
  have h1 : (mRng (mCons (mCB max2D (mCons (mC (.int 2)) (mCons (mCB min2D (mCons (mCB lenD (mCons (mVar 0) mNil)) (mCons (mC (.int ((6 : Nat) : Int))) mNil))) mNil))) mNil)) [some (.d (.scr ns)), some (.d l01), some (.d e01), none, none] = .ok ((List.range n).map fun k => .int (k : Nat)) [some (.d (.scr ns)), some (.d l01), some (.d e01), none, none] := by
    have hr := v_range1 (n := n) (by omega)
    have e1 : (if ((6 : Nat) : Int) < (ns.length : Int) then ((6 : Nat) : Int) else (ns.length : Int)) = ((min ns.length 6 : Nat) : Int) := by
      split <;> omega
    have e2 : (if (2 : Int) < ((min ns.length 6 : Nat) : Int) then ((min ns.length 6 : Nat) : Int) else (2 : Int)) = (n : Int) := by
      split <;> omega
    simp only [e_rng, e_cons, e_nil, e_cb, e_c, e_var, List.getElem?_cons_zero, Rs.bind_ok, v_lenC, e_ofO_some, v_min, v_max, gt_iff_lt, e1, e2, hr]
  have h2 := lc_map (i := 4) (it := mRng (mCons (mCB max2D (mCons (mC (.int 2)) (mCons (mCB min2D (mCons (mCB lenD (mCons (mVar 0) mNil)) (mCons (mC (.int ((6 : Nat) : Int))) mNil))) mNil))) mNil)) (elt := mCallE m_k01_l_right (mCallO m_l_jar (mCons (mVar 0) (mCons (mVar 4) mNil))) mNil) (env := [some (.d (.scr ns)), some (.d l01), some (.d e01), none, none]) (fun k : Nat => D.int (k : Nat)) (List.range n) (fun _ => .bl ((fun _ : Nat => true) 0)) h1 (by rw [List.length_range]; omega) (by simp) (fun k _ => by
    obtain ⟨o, j1, j2⟩ := jar_ok ns k
    obtain ⟨o', r⟩ := right01 j2
    have a1 : (mCallO m_l_jar (mCons (mVar 0) (mCons (mVar 4) mNil))) [some (.d (.scr ns)), some (.d l01), some (.d e01), none, some (.d (.int (k : Nat)))] = .ok o [some (.d (.scr ns)), some (.d l01), some (.d e01), none, some (.d (.int (k : Nat)))] := by
      simp [mCallO, j1]
    show (mCallE m_k01_l_right (mCallO m_l_jar (mCons (mVar 0) (mCons (mVar 4) mNil))) mNil) [some (.d (.scr ns)), some (.d l01), some (.d e01), none, some (.d (.int (k : Nat)))] = _
    unfold mCallE
    simp [a1, r])
  have h3 := v_all (fun _ : Nat => true) (List.range n)
  have h2' : (mLc (mRng (mCons (mCB max2D (mCons (mC (.int 2)) (mCons (mCB min2D (mCons (mCB lenD (mCons (mVar 0) mNil)) (mCons (mC (.int 6)) mNil))) mNil))) mNil)) (gV 4) mYes (mCallE m_k01_l_right (mCallO m_l_jar (mCons (mVar 0) (mCons (mVar 4) mNil))) mNil) [4]) [some (.d (.scr ns)), some (.d l01), some (.d e01), none, none] = _ := h2
  rw [e_ret, e_cb, e_cons, h2', Rs.bind_ok, e_nil, Rs.bind_ok, Rs.bind_ok, h3, e_ofO_some, Rs.on_ok]
  simp [finP]
end Mi
set_option maxHeartbeats 200000
set_option maxHeartbeats 0
open PySem PySem.W PySem.Calls PyProof.Rows
theorem PySem.Challenge.cw_readonce_k01_limits_and_errors_holds : PySem.Challenge.rw_readonce_k01_limits_and_errors.Holds := by
  w_on; o_law
  refine HandSHeadRun.head_any (r := OpenLaw.row PySem.Challenge.rw_readonce_k01_limits_and_errors) (q := view (OpenLaw.row PySem.Challenge.rw_readonce_k01_limits_and_errors).prog [44]) (H := Law_k01.hk) (ob := Law_k01.ob) (M := 16000) (loose := Law_k01.loose) (d := HandSHeadRun.topDef (OpenLaw.row PySem.Challenge.rw_readonce_k01_limits_and_errors).prog 44) (kwd := []) Law_k01.ob_eq
    (by kernel_rfl) (fun s => by kernel_rfl) Law_k01.run (by kernel_rfl) (by kernel_rfl) (by kernel_rfl) (by rfl) (by first | assumption | decide +kernel) (by decide +kernel) ⟨rfl, rfl, rfl, rfl, rfl, by decide +kernel⟩ ?hw ?hc
  case hw => w_witness2
  case hc =>
    refine DD.walk_ofW (l := PySem.Challenge.rw_readonce_k01_limits_and_errors) (n := 63) (k := 5) (x := "_law_cells") rfl (by decide) (by kernel_rfl) ⟨rfl, by decide, by decide⟩ ?F
    intro w mg fa h Y G hmg0
    obtain ⟨K, KX, c⟩ := Y
    have hmg : mg ("law" : PySem.Str) = some (.ref fa) := by
      have e : (HandSHeadRun.topDef (OpenLaw.row PySem.Challenge.rw_readonce_k01_limits_and_errors).prog 44).name = ("law" : PySem.Str) := by kernel_rfl
      rw [← e]
      exact hmg0
    obtain ⟨fa2, fd, e, hb, hF⟩ := Law_k01.facts (P := (PySem.Challenge.rw_readonce_k01_limits_and_errors).prog) (w := w) KX G c
    rw [hmg] at e
    cases e
    exact ⟨K, fd, _, KX, hb, fun H a ns hl hO hS => DD.law_end hO (Law_k01.noLam c) hS (Mi.k01_law_true ns hl), fun base _ _ => hF base⟩
