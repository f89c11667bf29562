import PyProof.Rows.All
import Wide.All
import OpenK.AllK
import Wide.FinOn
import HandS.ForMost
import HandS.Exc
import HandS.TryOnly
import HandS.ExcOwn
import HandS.WordsExc
import HandS.Defaults
import HandS.Walk
import HandS.ExcCtx
import HandS.SuiteRaise
import HandS.RaiseFrom
import HandS.ExcInitHot
import HandS.CallSlots
import HandS.IsInst
import HandS.TupAny
import HandS.TupMul
import HandS.Deep
import HandS.Wide
import HandS.WideBits
import HandS.HeadHook1
import HandS.HeadHook2
import HandS.Style
import HandS.Star
import KE.KStateDown
import HandS.Ends
import HandS.EndBits
import HandS.Head0
import HandS.Head1
import HandS.Head2
import HandS.HeadEnd
import OpenK.KOps
import OpenK.KMeth
import KE.KCallOwn
import HandS.Property
import HandS.Iter
import HandS.SetKeys
import HandS.SetFor
import HandS.Strs
import PyProof.ReprRoads
import HandS.SortInts
import HandS.Conv
import KE.KOpsOwn
import PyProof.ListMulRight
import HandS.WordsDict
import PyProof.ListOps
import PyProof.AutoSeq1
import KE.GoesEnum
import KE.GoesMore
import PyProof.EnumMake
import PyProof.SliceList
import HandS.ExcInit
import KE.KExcIs
import HandS.RaiseMore
import KE.KExcInit
import PyProof.IsiH_set
import KE.KIsAll
import HandS.ClsMeth
import KE.OsScanText
import PySem.Challenge.RW_parthauls_k12_whole_weavings_go_together
set_option Elab.async false
set_option linter.all false
set_option maxRecDepth 100000
section
namespace MM
open PySem PySem.Spec PyProof.Rows L2

/-- the wish about exceptions: each in the air was raised where none was handled -/
abbrev Takes (X : Cx) (W : WX) : Prop := L2N.Takes X W
theorem takes0 {X : Cx} : Takes X (fun _ _ _ _ => False) := fun _ _ ⟨_, _, _, _, _, _, _, _, _, _, _, _, _, _, _, _, no⟩ => no.elim
/-- a list that nobody may change -/
def FzL (K : PySem.W.Frag) (H : Hp) (a : Addr) (xs : List V) : Prop := (∃ o, H a = some (.frz o (.lst xs))) ∨ SqL K (fun _ => none) a xs
theorem FzL.sq {K : PySem.W.Frag} {H : Hp} {a : Addr} {xs : List V} : FzL K H a xs → SqL K H a xs
  | .inl ⟨o, h⟩ => .inl (.inr ⟨o, h⟩)
  | .inr (.inl (.inl z)) => nomatch z
  | .inr (.inl (.inr ⟨_, z⟩)) => nomatch z
  | .inr (.inr written) => .inr written
/-- the names of attributes with which an object of a class of the package is whole: nobody writes it from then on -/
def sealedL : List (List Str) := [["events"], ["kind", "tests", "deeds", "answer"], ["parts", "rows", "tests"], ["answers", "done", "state", "desk", "thing", "course", "numbers"]]
def sealedN (ns : List Str) : Bool := decide (ns ∈ sealedL)
/-- a value: tuples, lists that nobody may change, objects that are whole, by what they hold -/
inductive MV where
  | non | bl (b : Bool) | int (i : Int) | str (x : Str) | ref (a : Addr) | ty (n : String) | tup (xs : List MV) | lis (xs : List MV) | obj (C : Addr) (ns : List Str) (xs : List MV) | err (a d C : Addr) (ns : List Str) (xs : List MV) | slc (a b c : Option Int) | key (ks : List Key)
instance : Inhabited MV := ⟨.non⟩

/-- a slice object at p -/
def slcO (p : Addr) (a b c : Option Int) : HO := .ext fun h => ∃ vl vu vs, h.IsSliceOf p vl vu vs ∧ IsPart vl a ∧ IsPart vu b ∧ IsPart vs c
mutual
def VR (K : PySem.W.Frag) (H : Hp) : MV → V → Prop
  | .non, v => v = .non
  | .bl b, v => v = .bl b
  | .int i, v => v = .int i
  | .str x, v => v = .str x
  | .ref a, v => v = .ref a
  | .ty n, v => v = .ty n
  | .tup xs, v => ∃ p vs, v = .ref p ∧ SqT K H p vs ∧ VRs K H xs vs
  | .lis xs, v => ∃ p vs, v = .ref p ∧ FzL K H p vs ∧ VRs K H xs vs
  | .obj C ns xs, v => ∃ p dx gs, v = .ref p ∧ H p = some (.ins C dx gs) ∧ gs.map (·.1) = ns ∧ sealedN ns = true ∧ VRs K H xs (gs.map (·.2))
  | .err a d _ ns xs, v => ∃ gs : List (Str × V), v = .ref a ∧ (ns = [] ∨ H d = some (.xd gs)) ∧ gs.map (·.1) = ns ∧ VRs K H xs (gs.map (·.2))
  | .slc a b c, v => ∃ p, v = .ref p ∧ H p = some (slcO p a b c)
  | .key ks, v => ∃ p, v = .ref p ∧ H p = some (.tup (ks.map kV))
def VRs (K : PySem.W.Frag) (H : Hp) : List MV → List V → Prop
  | [], vs => vs = []
  | x :: xs, vs => ∃ v r, vs = v :: r ∧ VR K H x v ∧ VRs K H xs r
end

/-- what never changes once it stands -/
def Fixed : HO → Prop
  | .tup _ => True
  | .frz _ _ => True
  | .xd _ => True
  | .ext _ => True
  | .ins _ _ gs => sealedN (gs.map (·.1)) = true
  | _ => False
def TK (H H' : Hp) : Prop := ∀ a o, H a = some o → Fixed o → H' a = some o
theorem TK.refl (H : Hp) : TK H H := fun _ _ h _ => h
theorem TK.trans {A B C : Hp} (a : TK A B) (b : TK B C) : TK A C := fun p o h f => b p o (a p o h f) f
theorem TK.new {H : Hp} {p : Addr} {o : HO} (h : H p = none) : TK H (upd H p o) := fun a u e _ => by
  rw [upd_ne (ne_of_none e h)]; exact e
theorem TK.mut {H : Hp} {p : Addr} {o u : HO} (h : H p = some u) (nf : ¬ Fixed u) : TK H (upd H p o) := fun a z e f => by
  by_cases q : a = p
  · subst q; rw [h] at e; cases e; exact absurd f nf
  · rw [upd_ne q]; exact e

theorem SqT.tk {K : PySem.W.Frag} {H H' : Hp} {p : Addr} {vs : List V} (t : TK H H') (h : SqT K H p vs) : SqT K H' p vs :=
  h.imp_left fun tracked => tracked.imp (t _ _ · trivial) fun ⟨o, z⟩ => ⟨o, t _ _ z trivial⟩

theorem FzL.tk {K : PySem.W.Frag} {H H' : Hp} {p : Addr} {vs : List V} (t : TK H H') (h : FzL K H p vs) : FzL K H' p vs := by
  rcases h with ⟨o, h⟩ | h
  · exact .inl ⟨o, t _ _ h trivial⟩
  · exact .inr h

mutual
theorem VR.tk {K : PySem.W.Frag} {H H' : Hp} (t : TK H H') : ∀ (x : MV) {v : V}, VR K H x v → VR K H' x v
  | .non, _, h => by simpa only [VR] using h
  | .bl _, _, h => by simpa only [VR] using h
  | .int _, _, h => by simpa only [VR] using h
  | .str _, _, h => by simpa only [VR] using h
  | .ref _, _, h => by simpa only [VR] using h
  | .ty _, _, h => by simpa only [VR] using h
  | .tup xs, _, h => by
    rw [VR] at h ⊢
    obtain ⟨p, vs, e, q, r⟩ := h
    exact ⟨p, vs, e, SqT.tk t q, VRs.tk t xs r⟩
  | .lis xs, _, h => by
    rw [VR] at h ⊢
    obtain ⟨p, vs, e, q, r⟩ := h
    exact ⟨p, vs, e, FzL.tk t q, VRs.tk t xs r⟩
  | .obj C ns xs, _, h => by
    rw [VR] at h ⊢
    obtain ⟨p, dx, gs, e, q, en, se, r⟩ := h
    exact ⟨p, dx, gs, e, t _ _ q (by rw [← en] at se; exact se), en, se, VRs.tk t xs r⟩
  | .err a d C ns xs, _, h => by
    rw [VR] at h ⊢
    obtain ⟨gs, e, q, en, r⟩ := h
    exact ⟨gs, e, q.imp id fun q => t _ _ q trivial, en, VRs.tk t xs r⟩
  | .slc a b c, _, h => by
    rw [VR] at h ⊢
    obtain ⟨p, e, q⟩ := h
    exact ⟨p, e, t _ _ q trivial⟩
  | .key ks, _, h => by
    rw [VR] at h ⊢
    obtain ⟨p, e, q⟩ := h
    exact ⟨p, e, t _ _ q trivial⟩
theorem VRs.tk {K : PySem.W.Frag} {H H' : Hp} (t : TK H H') : ∀ (xs : List MV) {vs : List V}, VRs K H xs vs → VRs K H' xs vs
  | [], _, h => by rw [VRs] at h ⊢; exact h
  | x :: xs, _, h => by
    rw [VRs] at h ⊢
    obtain ⟨v, r, e, a, b⟩ := h
    exact ⟨v, r, e, VR.tk t x a, VRs.tk t xs b⟩
end
section
variable {K : PySem.W.Frag} {H H' : Hp}
@[simp] theorem VR_non {v : V} : VR K H .non v ↔ v = .non := by rw [VR]
@[simp] theorem VR_bl {b : Bool} {v : V} : VR K H (.bl b) v ↔ v = .bl b := by rw [VR]
@[simp] theorem VR_int {b : Int} {v : V} : VR K H (.int b) v ↔ v = .int b := by rw [VR]
@[simp] theorem VR_str {b : Str} {v : V} : VR K H (.str b) v ↔ v = .str b := by rw [VR]
@[simp] theorem VR_ref {b : Addr} {v : V} : VR K H (.ref b) v ↔ v = .ref b := by rw [VR]
@[simp] theorem VR_ty {b : String} {v : V} : VR K H (.ty b) v ↔ v = .ty b := by rw [VR]
theorem VR_tup {xs : List MV} {v : V} : VR K H (.tup xs) v ↔ ∃ p vs, v = .ref p ∧ SqT K H p vs ∧ VRs K H xs vs := by rw [VR]
theorem VR_lis {xs : List MV} {v : V} : VR K H (.lis xs) v ↔ ∃ p vs, v = .ref p ∧ FzL K H p vs ∧ VRs K H xs vs := by rw [VR]
theorem VR_obj {C : Addr} {ns : List Str} {xs : List MV} {v : V} : VR K H (.obj C ns xs) v ↔ ∃ p dx gs, v = .ref p ∧ H p = some (.ins C dx gs) ∧ gs.map (·.1) = ns ∧ sealedN ns = true ∧ VRs K H xs (gs.map (·.2)) := by rw [VR]
theorem VR_err {a d C : Addr} {ns : List Str} {xs : List MV} {v : V} : VR K H (.err a d C ns xs) v ↔ ∃ gs : List (Str × V), v = .ref a ∧ (ns = [] ∨ H d = some (.xd gs)) ∧ gs.map (·.1) = ns ∧ VRs K H xs (gs.map (·.2)) := by rw [VR]
theorem VR_key {ks : List Key} {v : V} : VR K H (.key ks) v ↔ ∃ p, v = .ref p ∧ H p = some (.tup (ks.map kV)) := by rw [VR]
theorem VR_slc {a b c : Option Int} {v : V} : VR K H (.slc a b c) v ↔ ∃ p, v = .ref p ∧ H p = some (slcO p a b c) := by rw [VR]
@[simp] theorem VRs_nil {vs : List V} : VRs K H [] vs ↔ vs = [] := by rw [VRs]
theorem VRs_cons {x : MV} {xs : List MV} {vs : List V} : VRs K H (x :: xs) vs ↔ ∃ v r, vs = v :: r ∧ VR K H x v ∧ VRs K H xs r := by rw [VRs]
theorem VRs.length : ∀ {xs : List MV} {vs : List V}, VRs K H xs vs → xs.length = vs.length
  | [], _, h => by rw [VRs_nil] at h; subst h; rfl
  | x :: xs, _, h => by
    obtain ⟨v, r, e, _, q⟩ := VRs_cons.mp h
    subst e
    simp [VRs.length q]
theorem VRs.get : ∀ {xs : List MV} {vs : List V} {i : Nat} {x : MV}, VRs K H xs vs → xs[i]? = some x → ∃ v, vs[i]? = some v ∧ VR K H x v
  | [], _, _, _, _, e => by simp at e
  | y :: xs, _, i, x, h, e => by
    obtain ⟨v, r, e1, a, q⟩ := VRs_cons.mp h
    subst e1
    cases i with
    | zero => simp at e; subst e; exact ⟨v, rfl, a⟩
    | succ i => exact VRs.get (i := i) q (by simpa using e)
theorem VRs.getV : ∀ {xs : List MV} {vs : List V} {i : Nat} {v : V}, VRs K H xs vs → vs[i]? = some v → ∃ x, xs[i]? = some x ∧ VR K H x v := fun {xs vs i v} h e => by
  have l := h.length
  have hi : i < vs.length := by
    rcases Nat.lt_or_ge i vs.length with z | z
    · exact z
    · rw [List.getElem?_eq_none z] at e; cases e
  have e2 : xs[i]? = some (xs[i]'(by omega)) := List.getElem?_eq_getElem _
  obtain ⟨v', e3, r⟩ := VRs.get h e2
  rw [e] at e3; cases e3
  exact ⟨_, e2, r⟩
theorem VRs.append : ∀ {xs ys : List MV} {vs ws : List V}, VRs K H xs vs → VRs K H ys ws → VRs K H (xs ++ ys) (vs ++ ws)
  | [], _, _, _, h, g => by rw [VRs_nil] at h; subst h; exact g
  | x :: xs, _, _, _, h, g => by
    obtain ⟨v, r, e, a, q⟩ := VRs_cons.mp h
    subst e
    exact VRs_cons.mpr ⟨v, r ++ _, rfl, a, VRs.append q g⟩
theorem VRs.take : ∀ {xs : List MV} {vs : List V} (n : Nat), VRs K H xs vs → VRs K H (xs.take n) (vs.take n)
  | _, _, 0, _ => by simp
  | [], _, n + 1, h => by rw [VRs_nil] at h; subst h; simp
  | x :: xs, _, n + 1, h => by
    obtain ⟨v, r, e, a, q⟩ := VRs_cons.mp h
    subst e
    exact VRs_cons.mpr ⟨v, _, rfl, a, VRs.take n q⟩
theorem VRs.drop : ∀ {xs : List MV} {vs : List V} (n : Nat), VRs K H xs vs → VRs K H (xs.drop n) (vs.drop n)
  | _, _, 0, h => h
  | [], _, n + 1, h => by rw [VRs_nil] at h; subst h; simp
  | x :: xs, _, n + 1, h => by
    obtain ⟨v, r, e, a, q⟩ := VRs_cons.mp h
    subst e
    exact VRs.drop n q
theorem VRs.one {x : MV} {vs : List V} (h : VRs K H [x] vs) : ∃ v, vs = [v] ∧ VR K H x v := by
  obtain ⟨v, r, e, a, q⟩ := VRs_cons.mp h
  rw [VRs_nil] at q
  subst q e
  exact ⟨v, rfl, a⟩
theorem VRs.two {x y : MV} {vs : List V} (h : VRs K H [x, y] vs) : ∃ v u, vs = [v, u] ∧ VR K H x v ∧ VR K H y u := by
  obtain ⟨v, r, e, a, q⟩ := VRs_cons.mp h
  obtain ⟨u, rfl, b⟩ := q.one
  subst e
  exact ⟨v, u, rfl, a, b⟩
end

/-! ### the heap -/
inductive MO where
  | lst (xs : List MV)
  | ins (C : Addr) (fs : List (Str × MV))
  | dK (kvs : List (Key × MV))
  | dT (kvs : List (List Key × MV))
  | lk (o : Obj) (kvs : List (Key × MV))
def PR {α : Type} (K : PySem.W.Frag) (H : Hp) (fs : List (α × MV)) (gs : List (α × V)) : Prop := fs.map (·.1) = gs.map (·.1) ∧ VRs K H (fs.map (·.2)) (gs.map (·.2))
def RO (K : PySem.W.Frag) (H : Hp) (a : Addr) : MO → Prop
  | .lst xs => ∃ vs, H a = some (.lst vs) ∧ VRs K H xs vs
  | .ins C fs => ∃ dx gs, H a = some (.ins C dx gs) ∧ PR K H fs gs
  | .dK kvs => ∃ gs, H a = some (.dK gs) ∧ PR K H kvs gs
  | .dT kvs => ∃ gs, H a = some (.dT gs) ∧ PR K H kvs gs
  | .lk o kvs => ∃ gs, H a = some (.frz o (.dK gs)) ∧ PR K H kvs gs
/-- the source of draws, hidden: 0: a dict; 1: a list -/
structure Deal where
  kind : Nat
  d : Addr
  g : Addr
structure MH where
  at_ : Addr → Option MO
  deal : Option Deal
  n : Nat
  fin : ∃ m : Nat, ∀ a : Nat, m ≤ a → at_ a = none
def bits (ns : List Int) : Nat := (ns.map fun n => n.natAbs.log2 + 1).sum
/-- what the hidden source is -/
def DealOk (H : Hp) (b : Nat) : Deal → Prop
  | ⟨kind, d, g⟩ => ∃ ns : List Int, H g = some (.lst (ns.map V.int)) ∧ (∀ n ∈ ns, 0 ≤ n ∧ n.natAbs.log2 ≤ 2000000) ∧ ns.length ≤ 63 ∧
    match kind with
    | 0 => ∃ now mixed turn : Int, H d = some (.dK [(.inr "great", .ref g), (.inr "now", .int now), (.inr "mixed", .int mixed), (.inr "turn", .int turn)]) ∧ 0 ≤ now ∧ now.natAbs.log2 ≤ 2000000 ∧ 1 ≤ mixed ∧ mixed ≤ 2147483647 ∧ 0 ≤ turn ∧ turn + b ≤ 2 ^ 64
    | _ => ∃ mixed : Int, H d = some (.lst [.ref g, .int mixed]) ∧ 0 ≤ mixed ∧ mixed < 2147483648
structure HR (K : PySem.W.Frag) (h : MH) (H : Hp) : Prop where
  ob : ∀ a o, h.at_ a = some o → RO K H a o
  dl : ∀ d, h.deal = some d → DealOk H h.n d ∧ h.at_ d.d = none ∧ h.at_ d.g = none
def MH.put (h : MH) (a : Addr) (o : MO) : MH := ⟨fun b => if b = a then some o else h.at_ b, h.deal, h.n, by
  obtain ⟨m, e⟩ := h.fin
  refine ⟨m + a + 1, fun b l => ?_⟩
  have ne : ¬ b = a := fun z => by
    have z : (b : Nat) = a := z
    omega
  show (if b = a then some o else h.at_ b) = none
  rw [if_neg ne]
  exact e b (by omega)⟩
theorem MH.fresh (h : MH) : ∃ p, h.at_ p = none := let ⟨m, e⟩ := h.fin; ⟨m, e m (Nat.le_refl m)⟩
@[simp] theorem MH.put_at (h : MH) (a b : Addr) (o : MO) : (h.put a o).at_ b = if b = a then some o else h.at_ b := rfl
@[simp] theorem MH.put_n (h : MH) (a : Addr) (o : MO) : (h.put a o).n = h.n := rfl
@[simp] theorem MH.put_deal (h : MH) (a : Addr) (o : MO) : (h.put a o).deal = h.deal := rfl
theorem MH.put_same {h : MH} {a : Addr} {o : MO} : (h.put a o).at_ a = some o := if_pos rfl
theorem MH.put_ne {h : MH} {a b : Addr} {o : MO} (e : b ≠ a) : (h.put a o).at_ b = h.at_ b := if_neg e
/-- all that is known in the one is known in the other -/
structure MH.le (h h' : MH) : Prop where
  at_ : ∀ a o, h.at_ a = some o → h'.at_ a = some o
  deal : h.deal = none ∨ h.deal = h'.deal
  n : h.n ≤ h'.n
section
variable {K : PySem.W.Frag} {H H' : Hp} {h h' : MH} {a p : Addr}
theorem PR.tk {α : Type} {fs : List (α × MV)} {gs : List (α × V)} (t : TK H H') (r : PR K H fs gs) : PR K H' fs gs := ⟨r.1, VRs.tk t _ r.2⟩
/-- an object is described the same where its own place stands as it stood -/
theorem RO.stay {o : MO} (t : TK H H') (e : H' a = H a) (r : RO K H a o) : RO K H' a o := by
  cases o with
  | lst xs => obtain ⟨vs, h1, h2⟩ := r; exact ⟨vs, e.trans h1, VRs.tk t _ h2⟩
  | ins C fs => obtain ⟨dx, gs, h1, h2⟩ := r; exact ⟨dx, gs, e.trans h1, h2.tk t⟩
  | dK kvs => obtain ⟨gs, h1, h2⟩ := r; exact ⟨gs, e.trans h1, h2.tk t⟩
  | dT kvs => obtain ⟨gs, h1, h2⟩ := r; exact ⟨gs, e.trans h1, h2.tk t⟩
  | lk o kvs => obtain ⟨gs, h1, h2⟩ := r; exact ⟨gs, e.trans h1, h2.tk t⟩
theorem RO.some {o : MO} (r : RO K H a o) : H a ≠ none := by
  cases o with
  | lst xs => obtain ⟨vs, h1, h2⟩ := r; rw [h1]; exact fun z => nomatch z
  | ins C fs => obtain ⟨dx, gs, h1, h2⟩ := r; rw [h1]; exact fun z => nomatch z
  | dK kvs => obtain ⟨gs, h1, h2⟩ := r; rw [h1]; exact fun z => nomatch z
  | dT kvs => obtain ⟨gs, h1, h2⟩ := r; rw [h1]; exact fun z => nomatch z
  | lk o kvs => obtain ⟨gs, h1, h2⟩ := r; rw [h1]; exact fun z => nomatch z
theorem HR.free (r : HR K h H) (e : H p = none) : h.at_ p = none := by
  cases q : h.at_ p with
  | none => rfl
  | some o => exact absurd e (r.ob p o q).some
theorem DealOk.stay {d : Deal} {n : Nat} (x : DealOk H n d) (e1 : H' d.d = H d.d) (e2 : H' d.g = H d.g) : DealOk H' n d := by
  obtain ⟨k, d, g⟩ := d
  simp only at e1 e2
  simp only [DealOk] at x ⊢
  rw [e1, e2]
  exact x
theorem DealOk.less {d : Deal} {n m : Nat} (x : DealOk H n d) (l : m ≤ n) : DealOk H m d := by
  obtain ⟨k, d, g⟩ := d
  simp only [DealOk] at x ⊢
  obtain ⟨ns, a, b, c, z⟩ := x
  refine ⟨ns, a, b, c, ?_⟩
  cases k with
  | zero => obtain ⟨now, mixed, turn, q, a1, a2, a3, a4, a5, a6⟩ := z; exact ⟨now, mixed, turn, q, a1, a2, a3, a4, a5, by omega⟩
  | succ k => exact z
theorem DealOk.there {d : Deal} {n : Nat} (x : DealOk H n d) : H d.d ≠ none ∧ H d.g ≠ none := by
  obtain ⟨k, d, g⟩ := d
  simp only [DealOk] at x
  obtain ⟨ns, e, _, _, z⟩ := x
  refine ⟨?_, by simp only; rw [e]; exact fun z => nomatch z⟩
  simp only
  cases k with
  | zero => obtain ⟨_, _, _, q, _⟩ := z; rw [q]; exact fun z => nomatch z
  | succ k => obtain ⟨_, q, _⟩ := z; rw [q]; exact fun z => nomatch z
/-- a place that h does not know, not the source's, is written -/
theorem HR.other {o : HO} (r : HR K h H) (t : TK H (upd H p o)) (n : h.at_ p = none) (nd : ∀ d, h.deal = some d → p ≠ d.d ∧ p ≠ d.g) : HR K h (upd H p o) := by
  refine ⟨fun b u e => ?_, fun d e => ?_⟩
  · have hb : b ≠ p := fun z => by rw [z, n] at e; cases e
    exact (r.ob b u e).stay t (upd_ne hb)
  · obtain ⟨x, y, z⟩ := r.dl d e
    exact ⟨x.stay (upd_ne (nd d e).1.symm) (upd_ne (nd d e).2.symm), y, z⟩
theorem HR.nodeal (r : HR K h H) (n : H p = none) : ∀ d, h.deal = some d → p ≠ d.d ∧ p ≠ d.g := fun d e => by
  obtain ⟨x, _, _⟩ := r.dl d e
  exact ⟨fun z => x.there.1 (z ▸ n), fun z => x.there.2 (z ▸ n)⟩
theorem HR.nodealO {o : MO} (r : HR K h H) (n : h.at_ p = Option.some o) : ∀ d, h.deal = some d → p ≠ d.d ∧ p ≠ d.g := fun d e => by
  obtain ⟨_, y, z⟩ := r.dl d e
  exact ⟨fun q => by (rw [q, y] at n; cases n), fun q => by (rw [q, z] at n; cases n)⟩
/-- a new place that h does not come to know -/
theorem HR.new' {o : HO} (r : HR K h H) (n : H p = none) : HR K h (upd H p o) := r.other (TK.new n) (r.free n) (r.nodeal n)
/-- a new object -/
theorem HR.new {o : HO} {m : MO} (r : HR K h H) (n : H p = none) (x : RO K (upd H p o) p m) : HR K (h.put p m) (upd H p o) := by
  have r' : HR K h (upd H p o) := r.new' n
  refine ⟨fun b u e => ?_, fun d e => ?_⟩
  · by_cases hb : b = p
    · subst hb; rw [MH.put_same] at e; cases e; exact x
    · rw [MH.put_ne hb] at e; exact r'.ob b u e
  · obtain ⟨x, y, z⟩ := r'.dl d e
    have q := r.nodeal n d e
    exact ⟨x, by rw [MH.put_ne (Ne.symm q.1)]; exact y, by rw [MH.put_ne (Ne.symm q.2)]; exact z⟩
/-- an object is written -/
theorem HR.set {o : HO} {u m : MO} (r : HR K h H) (e : h.at_ p = Option.some u) (t : TK H (upd H p o)) (x : RO K (upd H p o) p m) : HR K (h.put p m) (upd H p o) := by
  refine ⟨fun b v q => ?_, fun d q => ?_⟩
  · by_cases hb : b = p
    · subst hb; rw [MH.put_same] at q; cases q; exact x
    · rw [MH.put_ne hb] at q; exact (r.ob b v q).stay t (upd_ne hb)
  · obtain ⟨x, y, z⟩ := r.dl d q
    have n := r.nodealO e d q
    exact ⟨x.stay (upd_ne n.1.symm) (upd_ne n.2.symm), by rw [MH.put_ne (Ne.symm n.1)]; exact y, by rw [MH.put_ne (Ne.symm n.2)]; exact z⟩
theorem HR.le (r : HR K h' H) (l : h.le h') : HR K h H := ⟨fun a o e => r.ob a o (l.at_ a o e), fun d e => by
  rcases l.deal with z | z
  · rw [z] at e; cases e
  · rw [z] at e
    obtain ⟨x, y, w⟩ := r.dl d e
    refine ⟨x.less l.n, ?_, ?_⟩
    · cases q : h.at_ d.d with
      | none => rfl
      | some o => rw [l.at_ _ _ q] at y; cases y
    · cases q : h.at_ d.g with
      | none => rfl
      | some o => rw [l.at_ _ _ q] at w; cases w⟩
end

/-- an instance: its class, its attributes -/
def insM (h : MH) : MV → Option (Addr × List (Str × MV))
  | .obj C ns xs => some (C, ns.zip xs)
  | .ref p => match h.at_ p with
    | some (.ins C fs) => some (C, fs)
    | _ => none
  | _ => none
theorem zip_ok {α β : Type} : ∀ {gs : List (α × β)} {ns : List α} {xs : List MV}, gs.map (·.1) = ns → xs.length = gs.length → (ns.zip xs).map (·.1) = ns ∧ (ns.zip xs).map (·.2) = xs
  | [], _, xs, rfl, l => by cases xs with
    | nil => exact ⟨rfl, rfl⟩
    | cons x r => cases l
  | g :: gs, _, xs, rfl, l => by cases xs with
    | nil => cases l
    | cons x r =>
      obtain ⟨a, b⟩ := zip_ok (gs := gs) (xs := r) rfl (by simpa using l)
      exact ⟨by simp only [List.map_cons, List.zip_cons_cons]; rw [a], by simp only [List.map_cons, List.zip_cons_cons]; rw [b]⟩
theorem ins_ok {K : PySem.W.Frag} {H : Hp} {h : MH} {x : MV} {v : V} {C : Addr} {fs : List (Str × MV)} (hr : HR K h H) (r : VR K H x v) (e : insM h x = some (C, fs)) : ∃ p dx gs, v = .ref p ∧ H p = some (.ins C dx gs) ∧ PR K H fs gs := by
  cases x with
  | obj D ns xs =>
    cases e
    obtain ⟨p, dx, gs, e1, e2, e3, _, e4⟩ := VR_obj.mp r
    have z := zip_ok e3 (by rw [e4.length, List.length_map])
    exact ⟨p, dx, gs, e1, e2, z.1.trans e3.symm, by rw [z.2]; exact e4⟩
  | ref p =>
    simp only [insM] at e
    split at e
    · rename_i D gs ep
      cases e
      obtain ⟨dx, gs, e1, e2⟩ := hr.ob p _ ep
      exact ⟨p, dx, gs, by simpa using r, e1, e2⟩
    · cases e
  | _ => cases e

/-! ### the frame -/
abbrev En := List (Option MV)
structure SR (K : PySem.W.Frag) (H : Hp) (ρ : En) (σ : L2.St) : Prop where
  len : ρ.length = σ.length
  get : ∀ (i : Nat) (x : MV), ρ[i]? = some (some x) → ∃ v, σ[i]? = some (some v) ∧ VR K H x v
section
variable {K : PySem.W.Frag} {H H' : Hp} {ρ : En} {σ : L2.St}
theorem SR.tk (t : TK H H') (r : SR K H ρ σ) : SR K H' ρ σ := ⟨r.len, fun i x e => let ⟨v, a, b⟩ := r.get i x e; ⟨v, a, VR.tk t x b⟩⟩
theorem SR.set {i : Nat} {x : MV} {v : V} (r : SR K H ρ σ) (q : VR K H x v) : SR K H (ρ.set i (some x)) (σ.set i (some v)) := by
  refine ⟨by simp [r.len], fun j y e => ?_⟩
  by_cases hj : i = j
  · subst hj
    rw [List.getElem?_set] at e
    split at e
    · split at e
      · simp at e; subst e
        rename_i hl
        exact ⟨v, by rw [List.getElem?_set_self (by rw [← r.len]; exact hl)], q⟩
      · cases e
    · rename_i z; exact absurd rfl z
  · rw [List.getElem?_set_ne hj] at e
    obtain ⟨u, a, b⟩ := r.get j y e
    exact ⟨u, by rw [List.getElem?_set_ne hj]; exact a, b⟩
def startM (n : Nat) (xs : List MV) : En := xs.map some ++ List.replicate (n - xs.length) none
theorem SR.start {N : List Str} {xs : List MV} {vs : List V} (r : VRs K H xs vs) : SR K H (startM N.length xs) (start N vs) := by
  have l := r.length
  refine ⟨by simp [startM, L2.start, l], fun i x e => ?_⟩
  unfold startM at e
  have hi : i < xs.length := by
    refine Nat.lt_of_not_le fun z => ?_
    rw [List.getElem?_append_right (by simpa using z), List.getElem?_replicate] at e
    split at e <;> cases e
  rw [List.getElem?_append_left (by simpa using hi), List.getElem?_map] at e
  have e2 : xs[i]? = some x := by
    obtain ⟨y, q, eq⟩ := Option.map_eq_some_iff.mp e
    cases eq
    exact q
  obtain ⟨v, a, b⟩ := r.get e2
  refine ⟨v, ?_, b⟩
  unfold L2.start
  rw [List.getElem?_append_left (by simp; omega), List.getElem?_map, a]
  rfl
end
end MM
end
section
namespace MM
open PySem PySem.Spec PyProof.Rows L2

/-- an exception: its class, its attributes (none: not told) -/
structure MX where
  cls : Value
  fs : Option (List (Str × MV))
def RX (K : PySem.W.Frag) (H : Hp) (x : MX) (cls : Value) (d : Option Addr) : Prop :=
  x.cls = cls ∧ match x.fs with
    | none => d = none
    | some fs => ∃ a gs, d = some a ∧ H a = some (.xd gs) ∧ PR K H fs gs
theorem RX.tk {K : PySem.W.Frag} {H H' : Hp} {x : MX} {cls : Value} {d : Option Addr} (t : TK H H') (r : RX K H x cls d) : RX K H' x cls d := by
  refine ⟨r.1, ?_⟩
  have q := r.2
  revert q
  cases x.fs with
  | none => exact fun z => z
  | some fs => exact fun ⟨a, gs, e1, e2, e3⟩ => ⟨a, gs, e1, t _ _ e2 trivial, e3.tk t⟩

abbrev QV := MV → MH → Prop
abbrev QX := MX → MH → Prop
abbrev WE := En → MH → QV → QX → Prop
abbrev WT := En → MH → (Bool → MH → Prop) → QX → Prop
abbrev WA := En → MH → (List MV → MH → Prop) → QX → Prop
structure MD where
  nx : En → MH → Prop
  rt : QV
  bk : En → MH → Prop
  ct : En → MH → Prop
  ex : MX → En → MH → Prop
abbrev WS := En → MH → MD → Prop
abbrev WG := MV → En → MH → (En → MH → Prop) → QX → Prop
abbrev MD.at_ (d : MD) (ρ : En) : QX := fun x h => d.ex x ρ h

/-- the wish about exceptions, as HandS has it -/
def LW (K : PySem.W.Frag) (H : Hp) (ρ : En) (e : QX) : WX := fun cls d σ' H' => ∃ mx h', TK H H' ∧ SR K H' ρ σ' ∧ HR K h' H' ∧ RX K H' mx cls d ∧ e mx h'
def LWs (K : PySem.W.Frag) (H : Hp) (e : MX → En → MH → Prop) : WX := fun cls d σ' H' => ∃ mx ρ h', TK H H' ∧ SR K H' ρ σ' ∧ HR K h' H' ∧ RX K H' mx cls d ∧ e mx ρ h'
section
variable {X : Cx} {K : PySem.W.Frag} {H H1 : Hp} {ρ : En} {e : QX}
theorem tk_mono (t : TK H H1) (k : Takes X (LW K H ρ e)) : Takes X (LW K H1 ρ e) := k.imp fun _ _ _ _ ⟨mx, h', a, b, c, d, q⟩ => ⟨mx, h', t.trans a, b, c, d, q⟩
theorem tks_mono {e : MX → En → MH → Prop} (t : TK H H1) (k : Takes X (LWs K H e)) : Takes X (LWs K H1 e) := k.imp fun _ _ _ _ ⟨mx, ρ, h', a, b, c, d, q⟩ => ⟨mx, ρ, h', t.trans a, b, c, d, q⟩
theorem tks_at {e : MX → En → MH → Prop} (k : Takes X (LWs K H e)) (ρ : En) : Takes X (LW K H ρ (fun x h => e x ρ h)) := k.imp fun _ _ _ _ ⟨mx, h', a, b, c, d, q⟩ => ⟨mx, ρ, h', a, b, c, d, q⟩
end

/-- the readings over the mirror's state -/
def LE (X : Cx) (w : WE) : TE := fun σ H Q => ∃ ρ h q e, SR X.K H ρ σ ∧ HR X.K h H ∧ Takes X (LW X.K H ρ e) ∧ w ρ h q e ∧ ∀ mv v h' H', TK H H' → HR X.K h' H' → VR X.K H' mv v → q mv h' → Q v H'
def LT (X : Cx) (w : WT) : TT := fun σ H Q => ∃ ρ h q e, SR X.K H ρ σ ∧ HR X.K h H ∧ Takes X (LW X.K H ρ e) ∧ w ρ h q e ∧ ∀ b h' H', TK H H' → HR X.K h' H' → q b h' → Q b H'
def LA (X : Cx) (w : WA) : TA := fun σ H Q => ∃ ρ h q e, SR X.K H ρ σ ∧ HR X.K h H ∧ Takes X (LW X.K H ρ e) ∧ w ρ h q e ∧ ∀ mvs vs h' H', TK H H' → HR X.K h' H' → VRs X.K H' mvs vs → q mvs h' → Q vs H'
def LG (X : Cx) (w : WG) : TG := fun v σ H Q => ∃ mv ρ h q e, VR X.K H mv v ∧ SR X.K H ρ σ ∧ HR X.K h H ∧ Takes X (LW X.K H ρ e) ∧ w mv ρ h q e ∧ ∀ ρ' σ' h' H', TK H H' → SR X.K H' ρ' σ' → HR X.K h' H' → q ρ' h' → Q σ' H'
def LS (X : Cx) (w : WS) : TS := fun D σ H => ∃ ρ h d, SR X.K H ρ σ ∧ HR X.K h H ∧ Takes X (LWs X.K H d.ex) ∧ w ρ h d ∧
  (∀ ρ' σ' h' H', TK H H' → SR X.K H' ρ' σ' → HR X.K h' H' → d.nx ρ' h' → D.nx σ' H') ∧
  (∀ mv v h' H', TK H H' → HR X.K h' H' → VR X.K H' mv v → d.rt mv h' → D.rt v H') ∧
  (∀ ρ' σ' h' H', TK H H' → SR X.K H' ρ' σ' → HR X.K h' H' → d.bk ρ' h' → D.bk σ' H') ∧
  (∀ ρ' σ' h' H', TK H H' → SR X.K H' ρ' σ' → HR X.K h' H' → d.ct ρ' h' → D.ct σ' H')
abbrev SE (X : Cx) (e : Expr) (w : WE) : Prop := PE X e (LE X w)
abbrev ST (X : Cx) (e : Expr) (w : WT) : Prop := PT X e (LT X w)
abbrev SW (X : Cx) (e : Expr) (w : WT) : Prop := PW X e (LT X w)
abbrev SA (X : Cx) (es : List Expr) (w : WA) : Prop := PA X es (LA X w)
abbrev SG (X : Cx) (e : Expr) (w : WG) : Prop := PG X e (LG X w)
abbrev SS (X : Cx) (st : Stmt) (w : WS) : Prop := PS X st (LS X w)
abbrev SSs (X : Cx) (st : List Stmt) (w : WS) : Prop := PSs X st (LS X w)

section
variable {X : Cx}
theorem PE.imp {e : Expr} {t t' : TE} (h : PE X e t) (i : ∀ σ H Q, t' σ H Q → t σ H Q) : PE X e t' := ⟨fun pins s σ H Q I q => h.run pins s σ H Q I (i _ _ _ q)⟩
theorem PT.imp {e : Expr} {t t' : TT} (h : PT X e t) (i : ∀ σ H Q, t' σ H Q → t σ H Q) : PT X e t' := ⟨fun pins s σ H Q I q => h.run pins s σ H Q I (i _ _ _ q)⟩
theorem PW.imp {e : Expr} {t t' : TT} (h : PW X e t) (i : ∀ σ H Q, t' σ H Q → t σ H Q) : PW X e t' := ⟨fun wh pins s σ H Q I q => h.run wh pins s σ H Q I (i _ _ _ q)⟩
theorem PA.imp {e : List Expr} {t t' : TA} (h : PA X e t) (i : ∀ σ H Q, t' σ H Q → t σ H Q) : PA X e t' := ⟨fun pos pins s σ H Q I q => h.run pos pins s σ H Q I (i _ _ _ q)⟩
theorem PS.imp {e : Stmt} {t t' : TS} (h : PS X e t) (i : ∀ D σ H, t' D σ H → t D σ H) : PS X e t' := ⟨fun pins s σ H D I q => h.run pins s σ H D I (i _ _ _ q)⟩
theorem PSs.imp {e : List Stmt} {t t' : TS} (h : PSs X e t) (i : ∀ D σ H, t' D σ H → t D σ H) : PSs X e t' := ⟨fun pins s σ H D I q => h.run pins s σ H D I (i _ _ _ q)⟩
theorem PG.imp {e : Expr} {t t' : TG} (h : PG X e t) (i : ∀ v σ H Q, t' v σ H Q → t v σ H Q) : PG X e t' := ⟨fun pins s σ H v u Q I r q => h.run pins s σ H v u Q I r (i _ _ _ _ q)⟩

/-! ### leaves -/
def wVar (i : Nat) : WE := fun ρ h q _ => match ρ[i]? with
  | some (some v) => q v h
  | _ => False
def wC (v : MV) : WE := fun _ h q _ => q v h
theorem se_var {i : Nat} {x : Str} {pos : Pos} (hN : X.N[i]? = some x) (hv : Vis X.env.scope x) (hd : (x == ("__debug__" : Str)) = false := by decide) (hcd : (x == ("__classdict__" : Str)) = false := by decide) : SE X (.Name x pos) (wVar i) :=
  PE.imp (pe_var hN hv hd hcd) fun σ H Q ⟨ρ, h, q, e, sr, hr, tk, w, k⟩ => by
    unfold wVar at w
    split at w
    · rename_i v ev
      obtain ⟨u, h1, h2⟩ := sr.get i v ev
      exact ⟨u, h1, k v u h H (TK.refl H) hr h2 w⟩
    · exact w.elim
theorem sv (i : Nat) {x : Str} {pos : Pos} (hN : X.N[i]? = some x := by rfl) (hv : Vis X.env.scope x := by first | exact Or.inl rfl | exact Or.inr (Or.inl rfl) | exact Or.inr (Or.inr rfl)) (hd : (x == ("__debug__" : Str)) = false := by decide)
    (hcd : (x == ("__classdict__" : Str)) = false := by decide) : SE X (.Name x pos) (wVar i) := se_var hN hv hd hcd
theorem se_c {e : Expr} {v : V} {m : MV} (h : PE X e (tC v)) (r : ∀ H, VR X.K H m v) : SE X e (wC m) :=
  PE.imp h fun σ H Q ⟨ρ, h, q, e, sr, hr, tk, w, k⟩ => k m v h H (TK.refl H) hr (r H) w
theorem se_int {i : Int} {j pos} : SE X (.Constant (.int i) j pos) (wC (.int i)) := se_c pe_int fun _ => by simp
theorem se_bl {i : Bool} {j pos} : SE X (.Constant (.bool i) j pos) (wC (.bl i)) := se_c pe_bl fun _ => by simp
theorem se_non {j pos} : SE X (.Constant .none j pos) (wC .non) := se_c pe_non fun _ => by simp
theorem se_str {x : Str} {j pos} : SE X (.Constant (.str x) j pos) (wC (.str x)) := se_c pe_str fun _ => by simp
/-- a module's constant -/
theorem se_glob {x : Str} {v : V} {u : Value} {m : MV} {pos : Pos} (hm : X.mg x = some u) (r : RelV v u) (q : ∀ H, VR X.K H m v) (hg : Gl X x) (hd : (x == ("__debug__" : Str)) = false := by decide) : SE X (.Name x pos) (wC m) := se_c (pe_glob hg hm r hd) q
theorem se_bltn {x : Str} {n : String} {pos : Pos} (hm : X.mg x = none) (hv : bootBuiltins x = some (.type n)) (hg : Gl X x) (hn : x ≠ "__name__" := by decide) (hd : (x == ("__debug__" : Str)) = false := by decide) : SE X (.Name x pos) (wC (.ty n)) := se_c (pe_bltn (v := .ty n) hg hm hv rfl hn hd) fun _ => by simp

/-! ### arguments -/
def wNil : WA := fun _ h q _ => q [] h
def wCons (w : WE) (r : WA) : WA := fun ρ h q e => w ρ h (fun x h1 => r ρ h1 (fun xs h2 => q (x :: xs) h2) e) e
theorem sa_nil : SA X [] wNil := PA.imp pa_nil fun σ H Q ⟨ρ, h, q, e, sr, hr, tk, w, k⟩ => k [] [] h H (TK.refl H) hr (by simp) w
theorem sa_cons {e : Expr} {es : List Expr} {w : WE} {r : WA} (ha : SE X e w) (hr : SA X es r) (hs : starEach (e :: es) X.env = (false, eval e X.env) :: starEach es X.env := by rfl) : SA X (e :: es) (wCons w r) :=
  PA.imp (pa_cons ha hr hs) fun σ H Q ⟨ρ, h, q, e, sr, hr, tk, w, k⟩ =>
    ⟨ρ, h, _, e, sr, hr, tk, w, fun x v h1 H1 t1 r1 v1 w1 => ⟨ρ, h1, _, e, sr.tk t1, r1, tk_mono t1 tk, w1, fun xs vs h2 H2 t2 r2 v2 w2 =>
      k (x :: xs) (v :: vs) h2 H2 (t1.trans t2) r2 (VRs_cons.mpr ⟨v, vs, rfl, VR.tk t2 x v1, v2⟩) w2⟩⟩
/-- displays -/
def wTup (a : WA) : WE := fun ρ h q e => a ρ h (fun xs h1 => xs.length ≤ sizeLine ∧ q (.tup xs) h1) e
def wLst (a : WA) : WE := fun ρ h q e => a ρ h (fun xs h1 => xs.length ≤ sizeLine ∧ ∀ p, h1.at_ p = none → q (.ref p) (h1.put p (.lst xs))) e
theorem se_tup {es : List Expr} {x1 pos} {a : WA} (h : SA X es a) : SE X (.Tuple es x1 pos) (wTup a) :=
  PE.imp (pe_tup h) fun σ H Q ⟨ρ, h, q, e, sr, hr, tk, w, k⟩ =>
    ⟨ρ, h, _, e, sr, hr, tk, w, fun xs vs h1 H1 t1 r1 v1 ⟨w1, w2⟩ => ⟨by rw [← v1.length]; exact w1, fun p np => by
      have t2 : TK H1 (upd H1 p (.tup vs)) := TK.new np
      exact k (.tup xs) (.ref p) h1 _ (t1.trans t2) (r1.new' np) (VR_tup.mpr ⟨p, vs, rfl, SqT.of upd_same, VRs.tk t2 _ v1⟩) w2⟩⟩
theorem se_lst {es : List Expr} {pos} {a : WA} (h : SA X es a) : SE X (.List es pos) (wLst a) :=
  PE.imp (pe_lst h) fun σ H Q ⟨ρ, h, q, e, sr, hr, tk, w, k⟩ =>
    ⟨ρ, h, _, e, sr, hr, tk, w, fun xs vs h1 H1 t1 r1 v1 ⟨w1, w2⟩ => ⟨by rw [← v1.length]; exact w1, fun p np => by
      have t2 : TK H1 (upd H1 p (.lst vs)) := TK.new np
      exact k (.ref p) (.ref p) (h1.put p (.lst xs)) _ (t1.trans t2) (r1.new np ⟨vs, upd_same, VRs.tk t2 _ v1⟩) (by simp) (w2 p (r1.free np))⟩⟩

/-! ### operators -/
abbrev B2 := MV → MV → MH → QV → QX → Prop
def wBin (B : B2) (a b : WE) : WE := fun ρ h q e => a ρ h (fun x h1 => b ρ h1 (fun y h2 => B x y h2 q e) e) e
/-- a rule by values is told by B -/
def B2Ok (X : Cx) (r : R2) (B : B2) : Prop := ∀ x y v u h H q e (Q : VK), HR X.K h H → VR X.K H x v → VR X.K H y u → B x y h q e → (∀ mv v' h' H', TK H H' → HR X.K h' H' → VR X.K H' mv v' → q mv h' → Q v' H') → r v u H Q
theorem LE.two {a b : WE} {B : B2} {r : R2} (hB : B2Ok X r B) {σ : L2.St} {H : Hp} {Q : VK} (x : LE X (wBin B a b) σ H Q) : tOp r (LE X a) (LE X b) σ H Q := by
  obtain ⟨ρ, h, q, e, sr, hr, tk, w, k⟩ := x
  exact ⟨ρ, h, _, e, sr, hr, tk, w, fun x v h1 H1 t1 r1 v1 w1 => ⟨ρ, h1, _, e, sr.tk t1, r1, tk_mono t1 tk, w1, fun y u h2 H2 t2 r2 v2 w2 =>
    hB x y v u h2 H2 q e Q r2 (VR.tk t2 x v1) v2 w2 fun mv v' h' H' t3 r3 v3 q3 => k mv v' h' H' (t1.trans (t2.trans t3)) r3 v3 q3⟩⟩
theorem se_op {op : Operator} {r : R2} {B : B2} {a b : Expr} {wa wb : WE} {pos : Pos} (hB : B2Ok X r B) (ho : OpR X (binaryOp op) r) (ha : SE X a wa) (hb : SE X b wb) : SE X (.BinOp a op b pos) (wBin B wa wb) := PE.imp (pe_op ho ha hb) fun _ _ _ x => LE.two hB x
theorem se_cmp {op : CmpOp} {r : R2} {B : B2} {a b : Expr} {wa wb : WE} {pos : Pos} (hB : B2Ok X r B) (ho : OpR X (compareOp op) r) (ha : SE X a wa) (hb : SE X b wb) (hm : behindInMarks op b = false) : SE X (.Compare a [op] [b] pos) (wBin B wa wb) := PE.imp (pe_cmpR ho ha hb hm) fun _ _ _ x => LE.two hB x
/-- a value that is a bool, as a test -/
def wTB (w : WE) : WT := fun ρ h q e => w ρ h (fun x h1 => match x with | .bl b => q b h1 | _ => False) e
theorem LT.tb {w : WE} {σ : L2.St} {H : Hp} {Q : Bool → Hp → Prop} (x : LT X (wTB w) σ H Q) : LE X w σ H fun v H' => ∃ k, v = .bl k ∧ Q k H' := by
  obtain ⟨ρ, h, q, e, sr, hr, tk, w, k⟩ := x
  refine ⟨ρ, h, _, e, sr, hr, tk, w, fun x v h1 H1 t1 r1 v1 w1 => ?_⟩
  cases x with
  | bl b => exact ⟨b, by simpa using v1, k b h1 H1 t1 r1 w1⟩
  | _ => exact w1.elim
theorem st_cmp {op : CmpOp} {r : R2} {B : B2} {a b : Expr} {wa wb : WE} {pos : Pos} (hB : B2Ok X r B) (ho : OpR X (compareOp op) r) (ha : SE X a wa) (hb : SE X b wb) (hm : behindInMarks op b = false) : ST X (.Compare a [op] [b] pos) (wTB (wBin B wa wb)) :=
  PT.imp (pt_cmpR ho ha hb hm) fun _ _ _ x => by
    obtain ⟨ρ, h, q, e, sr, hr, tk, w, k⟩ := LT.tb x
    exact LE.two hB ⟨ρ, h, q, e, sr, hr, tk, w, k⟩
theorem st_val {e : Expr} {w : WE} (h : SE X e w) (he : ∀ whole, isTrue e X.env whole = (do let v ← whole; standAt e.pos; holding [v] (truthy v)) := by intro _; rfl) : ST X e (wTB w) := PT.imp (pt_val h he) fun _ _ _ x => LT.tb x
/-- a < b < c -/
def wChain (B B' : B2) (a b c : WE) : WE := fun ρ h q e => a ρ h (fun x h1 => b ρ h1 (fun y h2 => B x y h2 (fun z h3 => match z with | .bl true => c ρ h3 (fun u h4 => B' y u h4 q e) e | .bl false => q (.bl false) h3 | _ => False) e) e) e

/-! ### and, or, not, if -/
def wAnd (t u : WT) : WT := fun ρ h q e => t ρ h (fun c h1 => match c with | true => u ρ h1 q e | false => q false h1) e
def wOr (t u : WT) : WT := fun ρ h q e => t ρ h (fun c h1 => match c with | true => q true h1 | false => u ρ h1 q e) e
def wNot (t : WT) : WT := fun ρ h q e => t ρ h (fun c h1 => q (!c) h1) e
theorem sw_and1 {a : Expr} {t : WT} {pos : Pos} (ha : ST X a t) : SW X (.BoolOp .And [a] pos) t := pw_and1 ha
theorem sw_or1 {a : Expr} {t : WT} {pos : Pos} (ha : ST X a t) : SW X (.BoolOp .Or [a] pos) t := pw_or1 ha
theorem sw_and {a b : Expr} {rest : List Expr} {t u : WT} {pos : Pos} (ha : ST X a t) (hb : SW X (.BoolOp .And (b :: rest) pos) u) : SW X (.BoolOp .And (a :: b :: rest) pos) (wAnd t u) :=
  PW.imp (pw_and ha hb) fun σ H Q ⟨ρ, h, q, e, sr, hr, tk, w, k⟩ => ⟨ρ, h, _, e, sr, hr, tk, w, fun c h1 H1 t1 r1 w1 => by
    cases c with
    | true => exact iteT ⟨ρ, h1, q, e, sr.tk t1, r1, tk_mono t1 tk, w1, fun b h2 H2 t2 r2 q2 => k b h2 H2 (t1.trans t2) r2 q2⟩
    | false => exact iteF (k false h1 H1 t1 r1 w1)⟩
theorem sw_or {a b : Expr} {rest : List Expr} {t u : WT} {pos : Pos} (ha : ST X a t) (hb : SW X (.BoolOp .Or (b :: rest) pos) u) : SW X (.BoolOp .Or (a :: b :: rest) pos) (wOr t u) :=
  PW.imp (pw_or ha hb) fun σ H Q ⟨ρ, h, q, e, sr, hr, tk, w, k⟩ => ⟨ρ, h, _, e, sr, hr, tk, w, fun c h1 H1 t1 r1 w1 => by
    cases c with
    | true => exact iteT (k true h1 H1 t1 r1 w1)
    | false => exact iteF ⟨ρ, h1, q, e, sr.tk t1, r1, tk_mono t1 tk, w1, fun b h2 H2 t2 r2 q2 => k b h2 H2 (t1.trans t2) r2 q2⟩⟩
theorem st_not {a : Expr} {t : WT} {pos : Pos} (ha : ST X a t) : ST X (.UnaryOp .Not a pos) (wNot t) :=
  PT.imp (pt_not ha) fun σ H Q ⟨ρ, h, q, e, sr, hr, tk, w, k⟩ => ⟨ρ, h, _, e, sr, hr, tk, w, fun c h1 H1 t1 r1 w1 => k (!c) h1 H1 t1 r1 w1⟩
/-- as values: all but the last are bools -/
def wAndV (a b : WE) : WE := fun ρ h q e => a ρ h (fun x h1 => match x with | .bl true => b ρ h1 q e | .bl false => q (.bl false) h1 | _ => False) e
def wOrV (a b : WE) : WE := fun ρ h q e => a ρ h (fun x h1 => match x with | .bl true => q (.bl true) h1 | .bl false => b ρ h1 q e | _ => False) e
def wNotV (a : WE) : WE := fun ρ h q e => a ρ h (fun x h1 => match x with | .bl b => q (.bl (!b)) h1 | _ => False) e
theorem se_one {op} {a : Expr} {w : WE} {pos : Pos} (h : SE X a w) : SE X (.BoolOp op [a] pos) w := pe_one h
theorem se_and {a b : Expr} {rest : List Expr} {wa wb : WE} {pos : Pos} (ha : SE X a wa) (hb : SE X (.BoolOp .And (b :: rest) pos) wb) : SE X (.BoolOp .And (a :: b :: rest) pos) (wAndV wa wb) :=
  PE.imp (pe_and ha hb) fun σ H Q ⟨ρ, h, q, e, sr, hr, tk, w, k⟩ => ⟨ρ, h, _, e, sr, hr, tk, w, fun x v h1 H1 t1 r1 v1 w1 => by
    cases x with
    | bl c =>
      refine ⟨c, by simpa using v1, ?_⟩
      cases c with
      | true => exact iteT ⟨ρ, h1, q, e, sr.tk t1, r1, tk_mono t1 tk, w1, fun m u h2 H2 t2 r2 v2 q2 => k m u h2 H2 (t1.trans t2) r2 v2 q2⟩
      | false => exact iteF (k (.bl false) _ h1 H1 t1 r1 (by simp) w1)
    | _ => exact w1.elim⟩
theorem se_or {a b : Expr} {rest : List Expr} {wa wb : WE} {pos : Pos} (ha : SE X a wa) (hb : SE X (.BoolOp .Or (b :: rest) pos) wb) : SE X (.BoolOp .Or (a :: b :: rest) pos) (wOrV wa wb) :=
  PE.imp (pe_or ha hb) fun σ H Q ⟨ρ, h, q, e, sr, hr, tk, w, k⟩ => ⟨ρ, h, _, e, sr, hr, tk, w, fun x v h1 H1 t1 r1 v1 w1 => by
    cases x with
    | bl c =>
      refine ⟨c, by simpa using v1, ?_⟩
      cases c with
      | true => exact iteT (k (.bl true) _ h1 H1 t1 r1 (by simp) w1)
      | false => exact iteF ⟨ρ, h1, q, e, sr.tk t1, r1, tk_mono t1 tk, w1, fun m u h2 H2 t2 r2 v2 q2 => k m u h2 H2 (t1.trans t2) r2 v2 q2⟩
    | _ => exact w1.elim⟩
theorem se_not {a : Expr} {wa : WE} {pos : Pos} (ha : SE X a wa) : SE X (.UnaryOp .Not a pos) (wNotV wa) :=
  PE.imp (pe_not ha) fun σ H Q ⟨ρ, h, q, e, sr, hr, tk, w, k⟩ => ⟨ρ, h, _, e, sr, hr, tk, w, fun x v h1 H1 t1 r1 v1 w1 => by
    cases x with
    | bl c => exact ⟨c, by simpa using v1, k (.bl (!c)) _ h1 H1 t1 r1 (by simp) w1⟩
    | _ => exact w1.elim⟩
def wIf (t : WT) (a b : WE) : WE := fun ρ h q e => t ρ h (fun c h1 => match c with | true => a ρ h1 q e | false => b ρ h1 q e) e
theorem se_if {c a b : Expr} {t : WT} {wa wb : WE} {pos : Pos} (hc : ST X c t) (ha : SE X a wa) (hb : SE X b wb) : SE X (.IfExp c a b pos) (wIf t wa wb) :=
  PE.imp (pe_ifExp hc ha hb) fun σ H Q ⟨ρ, h, q, e, sr, hr, tk, w, k⟩ => ⟨ρ, h, _, e, sr, hr, tk, w, fun c h1 H1 t1 r1 w1 => by
    cases c with
    | true => exact iteT ⟨ρ, h1, q, e, sr.tk t1, r1, tk_mono t1 tk, w1, fun m u h2 H2 t2 r2 v2 q2 => k m u h2 H2 (t1.trans t2) r2 v2 q2⟩
    | false => exact iteF ⟨ρ, h1, q, e, sr.tk t1, r1, tk_mono t1 tk, w1, fun m u h2 H2 t2 r2 v2 q2 => k m u h2 H2 (t1.trans t2) r2 v2 q2⟩⟩

/-! ### statements -/
def wNext : WS := fun ρ h d => d.nx ρ h
def wSeq (a b : WS) : WS := fun ρ h d => a ρ h { d with nx := fun ρ' h' => b ρ' h' d }
theorem ss_nil : SSs X [] wNext := PSs.imp pss_nil fun D σ H ⟨ρ, h, d, sr, hr, tk, w, n, r, b, c⟩ => n ρ σ h H (TK.refl H) sr hr w
theorem ss_cons {st : Stmt} {rest : List Stmt} {a b' : WS} (h1 : SS X st a) (h2 : SSs X rest b') : SSs X (st :: rest) (wSeq a b') :=
  PSs.imp (pss_cons h1 h2) fun D σ H ⟨ρ, h, d, sr, hr, tk, w, n, r, b, c⟩ => by
    refine ⟨ρ, h, { d with nx := fun ρ' h' => b' ρ' h' d }, sr, hr, tk, w, fun ρ' σ' h' H' t' sr' hr' w' => ?_, r, b, c⟩
    exact ⟨ρ', h', d, sr', hr', tks_mono t' tk, w', fun ρ2 σ2 h2 H2 t2 => n ρ2 σ2 h2 H2 (t'.trans t2), fun m v h2 H2 t2 => r m v h2 H2 (t'.trans t2), fun ρ2 σ2 h2 H2 t2 => b ρ2 σ2 h2 H2 (t'.trans t2), fun ρ2 σ2 h2 H2 t2 => c ρ2 σ2 h2 H2 (t'.trans t2)⟩
theorem ss_last {st : Stmt} {a : WS} (h1 : SS X st a) : SSs X [st] a := pss_one h1
theorem ss_pass {pos : Pos} : SS X (.Pass pos) wNext := PS.imp ps_pass fun D σ H ⟨ρ, h, d, sr, hr, tk, w, n, r, b, c⟩ => n ρ σ h H (TK.refl H) sr hr w
def wCt : WS := fun ρ h d => d.ct ρ h
def wBk : WS := fun ρ h d => d.bk ρ h
theorem ss_continue {pos : Pos} : SS X (.Continue pos) wCt := PS.imp ps_continue fun D σ H ⟨ρ, h, d, sr, hr, tk, w, n, r, b, c⟩ => c ρ σ h H (TK.refl H) sr hr w
theorem ss_break {pos : Pos} : SS X (.Break pos) wBk := PS.imp ps_break fun D σ H ⟨ρ, h, d, sr, hr, tk, w, n, r, b, c⟩ => b ρ σ h H (TK.refl H) sr hr w
def wExpr (a : WE) : WS := fun ρ h d => a ρ h (fun _ h1 => d.nx ρ h1) (d.at_ ρ)
theorem ss_expr {e : Expr} {a : WE} {pos : Pos} (he : SE X e a) (hs : swapsWith e none pos.line X.env = pure false := by rfl) : SS X (.Expr e pos) (wExpr a) :=
  PS.imp (ps_expr he hs) fun D σ H ⟨ρ, h, d, sr, hr, tk, w, n, r, b, c⟩ => ⟨ρ, h, _, _, sr, hr, tks_at tk ρ, w, fun mv v h1 H1 t1 r1 v1 w1 => n ρ σ h1 H1 t1 (sr.tk t1) r1 w1⟩
def wRet (a : WE) : WS := fun ρ h d => a ρ h d.rt (d.at_ ρ)
theorem ss_ret {e : Expr} {a : WE} {pos : Pos} (he : SE X e a) : SS X (.Return (some e) pos) (wRet a) :=
  PS.imp (ps_ret he) fun D σ H ⟨ρ, h, d, sr, hr, tk, w, n, r, b, c⟩ => ⟨ρ, h, _, _, sr, hr, tks_at tk ρ, w, fun mv v h1 H1 t1 r1 v1 w1 => r mv v h1 H1 t1 r1 v1 w1⟩
def wRetN : WS := fun _ h d => d.rt .non h
theorem ss_retN {pos : Pos} : SS X (.Return none pos) wRetN := PS.imp ps_retN fun D σ H ⟨ρ, h, d, sr, hr, tk, w, n, r, b, c⟩ => r .non .non h H (TK.refl H) hr (by simp) w
def wIfS (t : WT) (a b : WS) : WS := fun ρ h d => t ρ h (fun c h1 => match c with | true => a ρ h1 d | false => b ρ h1 d) (d.at_ ρ)
theorem ss_if {c : Expr} {p q : List Stmt} {t : WT} {a b : WS} {pos : Pos} (hc : ST X c t) (ha : SSs X p a) (hb : SSs X q b) : SS X (.If c p q pos) (wIfS t a b) :=
  PS.imp (ps_if hc ha hb) fun D σ H ⟨ρ, h, d, sr, hr, tk, w, n, r, b, c⟩ => by
    refine ⟨ρ, h, _, _, sr, hr, tks_at tk ρ, w, fun k h1 H1 t1 r1 w1 => ?_⟩
    have go : ∀ {w' : WS}, w' ρ h1 d → LS X w' D σ H1 := fun w' => ⟨ρ, h1, d, sr.tk t1, r1, tks_mono t1 tk, w', fun ρ2 σ2 h2 H2 t2 => n ρ2 σ2 h2 H2 (t1.trans t2), fun m v h2 H2 t2 => r m v h2 H2 (t1.trans t2), fun ρ2 σ2 h2 H2 t2 => b ρ2 σ2 h2 H2 (t1.trans t2), fun ρ2 σ2 h2 H2 t2 => c ρ2 σ2 h2 H2 (t1.trans t2)⟩
    cases k with
    | true => exact iteT (go w1)
    | false => exact iteF (go w1)

/-! ### targets -/
def gmName (i : Nat) : WG := fun v ρ h q _ => q (ρ.set i (some v)) h
theorem sg_name {i : Nat} {x : Str} {pos : Pos} (hN : X.N.Nodup) (hi : X.N[i]? = some x) (hx : Loc X.env.scope x) (hf : X.fn x = true ∨ X.env.scope.names.lookup x = some .local := by first | exact .inl rfl | exact .inr rfl | assumption) : SG X (.Name x pos) (gmName i) :=
  PG.imp (pg_name hN hi hx hf) fun v σ H Q ⟨mv, ρ, h, q, e, vr, sr, hr, tk, w, k⟩ => k _ _ h H (TK.refl H) (sr.set vr) hr w
def wAsg (a : WE) (g : WG) : WS := fun ρ h d => a ρ h (fun v h1 => g v ρ h1 d.nx (d.at_ ρ)) (d.at_ ρ)
theorem LS.asg {a : WE} {g : WG} {D : Ends} {σ : L2.St} {H : Hp} (x : LS X (wAsg a g) D σ H) : tAsg (LE X a) (LG X g) D σ H := by
  obtain ⟨ρ, h, d, sr, hr, tk, w, n, r, b, c⟩ := x
  exact ⟨ρ, h, _, _, sr, hr, tks_at tk ρ, w, fun mv v h1 H1 t1 r1 v1 w1 => ⟨mv, ρ, h1, _, _, v1, sr.tk t1, r1, tk_mono t1 (tks_at tk ρ), w1, fun ρ2 σ2 h2 H2 t2 => n ρ2 σ2 h2 H2 (t1.trans t2)⟩⟩
theorem ss_asg {tg e : Expr} {a : WE} {g : WG} {pos : Pos} (he : SE X e a) (hg : SG X tg g) (hs : swapsWithSole [tg] e pos.line X.env = pure false := by rfl) (hw : swappedStores [tg] e X.env = pure none := by rfl)
    (h1 : (assignEach [tg] X.env).map (·.2) = [assign tg X.env] := by rfl) : SS X (.Assign [tg] e pos) (wAsg a g) := PS.imp (ps_asg he hg hs hw h1) fun _ _ _ x => LS.asg x
theorem ss_set {i : Nat} {x : Str} {e : Expr} {a : WE} {pos pos' : Pos} (hN : X.N.Nodup) (hi : X.N[i]? = some x) (hx : Loc X.env.scope x) (he : SE X e a) (hs : swapsWith e (some (.Name x pos')) pos.line X.env = pure false := by rfl) (hf : X.fn x = true ∨ X.env.scope.names.lookup x = some .local := by first | exact .inl rfl | exact .inr rfl | assumption) :
    SS X (.Assign [.Name x pos'] e pos) (wAsg a (gmName i)) := PS.imp (ps_set hN hi hx he hs hf) fun D σ H ⟨ρ, h, d, sr, hr, tk, w, n, r, b, c⟩ =>
  ⟨ρ, h, _, _, sr, hr, tks_at tk ρ, w, fun mv v h1 H1 t1 r1 v1 w1 => n _ _ h1 H1 t1 ((sr.tk t1).set v1) r1 w1⟩
/-- name = e, the name in the i-th slot -/
theorem sset (i : Nat) {x : Str} {e : Expr} {a : WE} {pos pos' : Pos} (hN : X.N.Nodup) (he : SE X e a) (hi : X.N[i]? = some x := by rfl) (hx : Loc X.env.scope x := by first | exact .inl rfl | exact .inr rfl) (hs : swapsWith e (some (.Name x pos')) pos.line X.env = pure false := by rfl) (hf : X.fn x = true ∨ X.env.scope.names.lookup x = some .local := by first | exact .inl rfl | exact .inr rfl | assumption) :
    SS X (.Assign [.Name x pos'] e pos) (wAsg a (gmName i)) := ss_set hN hi hx he hs hf
end
end MM
end
section
namespace MM
open PySem PySem.Spec PyProof.Rows L2

theorem MH.le.refl (h : MH) : MH.le h h := ⟨fun _ _ e => e, .inr rfl, Nat.le_refl _⟩
theorem MH.le.trans {a b c : MH} (x : MH.le a b) (y : MH.le b c) : MH.le a c := ⟨fun p o e => y.at_ p o (x.at_ p o e), by
  rcases x.deal with e | e
  · exact .inl e
  · rcases y.deal with f | f
    · exact .inl (e.trans f)
    · exact .inr (e.trans f), Nat.le_trans x.n y.n⟩
theorem MH.le_put {h : MH} {p : Addr} {o : MO} (n : h.at_ p = none) : MH.le h (h.put p o) := ⟨fun a u e => by
  by_cases q : a = p
  · subst q; rw [n] at e; cases e
  · rw [MH.put_ne q]; exact e, .inr rfl, Nat.le_refl _⟩
theorem MH.le.put {h h' : MH} {p : Addr} {o : MO} (l : MH.le h h') (n : h.at_ p = none) : MH.le h (h'.put p o) := ⟨fun a u e => by
  by_cases q : a = p
  · subst q; rw [n] at e; cases e
  · rw [MH.put_ne q]; exact l.at_ a u e, l.deal, l.n⟩
/-- the same is made of both -/
theorem MH.le.both {h h' : MH} {p : Addr} {o : MO} (l : MH.le h h') : MH.le (h.put p o) (h'.put p o) := ⟨fun a u e => by
  by_cases q : a = p
  · subst q; rw [MH.put_same] at e ⊢; exact e
  · rw [MH.put_ne q] at e ⊢; exact l.at_ a u e, l.deal, l.n⟩
/-! ### draws left -/
def MH.sp (h : MH) (c : Nat) : MH := ⟨h.at_, h.deal, h.n - c, h.fin⟩
@[simp] theorem MH.sp_at (h : MH) (c : Nat) (a : Addr) : (h.sp c).at_ a = h.at_ a := rfl
@[simp] theorem MH.sp_deal (h : MH) (c : Nat) : (h.sp c).deal = h.deal := rfl
@[simp] theorem MH.sp_n (h : MH) (c : Nat) : (h.sp c).n = h.n - c := rfl
@[simp] theorem MH.sp_sp (h : MH) (c d : Nat) : (h.sp c).sp d = h.sp (c + d) := by simp [MH.sp, Nat.sub_sub]
@[simp] theorem MH.sp_zero (h : MH) : h.sp 0 = h := by simp [MH.sp]
@[simp] theorem MH.put_sp (h : MH) (c : Nat) (a : Addr) (o : MO) : (h.put a o).sp c = (h.sp c).put a o := rfl
theorem MH.sp_le (h : MH) {c d : Nat} (l : c ≤ d) : MH.le (h.sp d) (h.sp c) := ⟨fun _ _ e => e, .inr rfl, by simp; omega⟩
theorem MH.sp_le0 (h : MH) {d : Nat} : MH.le (h.sp d) h := ⟨fun _ _ e => e, .inr rfl, by simp⟩
/-- x is the source of draws, c are left -/
def MH.src (h : MH) (x : MV) (c : Nat) : Prop := (∃ D, h.deal = some D ∧ D.kind = 0 ∧ x = .ref D.d) ∧ c ≤ h.n
@[simp] theorem MH.src_put (h : MH) (x : MV) (c : Nat) (a : Addr) (o : MO) : (h.put a o).src x c = h.src x c := rfl
theorem MH.src_sp {h : MH} {x : MV} {c d : Nat} (s : h.src x (c + d)) : (h.sp c).src x d := ⟨s.1, by have := s.2; simp; omega⟩
theorem MH.src.less {h : MH} {x : MV} {c d : Nat} (s : h.src x c) (l : d ≤ c) : h.src x d := ⟨s.1, Nat.le_trans l s.2⟩
theorem MH.le.free {h h' : MH} {p : Addr} (l : MH.le h h') (n : h'.at_ p = none) : h.at_ p = none := by
  cases e : h.at_ p with
  | none => rfl
  | some o => rw [l.at_ p o e] at n; cases n

/-! ### what a def promises by values -/
abbrev Spec := List MV → MH → QV → QX → Prop
def LSp (K : PySem.W.Frag) (Φ : Spec) : Sp := fun vs H Q E => ∃ args h q e, VRs K H args vs ∧ HR K h H ∧ Φ args h q e ∧ (∀ mv v h' H', TK H H' → HR K h' H' → VR K H' mv v → q mv h' → Q v H') ∧
  ∀ mx cls d h' H', TK H H' → HR K h' H' → RX K H' mx cls d → e mx h' → E cls d H'
/-- the same where less of the heap need be known behind -/
def QV.wk (q : QV) : QV := fun v h => ∃ h2, MH.le h2 h ∧ q v h2
def QX.wk (q : QX) : QX := fun v h => ∃ h2, MH.le h2 h ∧ q v h2
theorem QV.wk_i {q : QV} {v : MV} {h : MH} (x : q v h) : QV.wk q v h := ⟨h, MH.le.refl h, x⟩
theorem QX.wk_i {q : QX} {v : MX} {h : MH} (x : q v h) : QX.wk q v h := ⟨h, MH.le.refl h, x⟩
/-- FnOk, where no repr is under way -/
structure FnG (P : Program) (w : World) (K : PySem.W.Frag) (mg : Str → Option Value) (base : Heap) (k : Nat) (f : Addr) (fd : FuncData) (ps : List Str) (sp : Sp) : Prop where
  len : ∀ (vs : List V) (H : Hp) (Q : VK) (E : XK), sp vs H Q E → vs.length = ps.length
  run : ∀ (A : Around) (outer : List PySem.Env) (s : Shared) (H : Hp) (args : Args) (us : List Value) (vs : List V) (Q : VK) (E : XK), Room k A → A.guards = some [] → Env0 P w K mg base A outer s H → BindsTo s fd args (ps.zip us) → Vals vs us → sp vs H Q E →
    codeAny (model P w) A (.call (.ref f) args) (CR (L2N.CX P w) outer P w H s Q E) s
theorem FnG.mono {P : Program} {w : World} {K : PySem.W.Frag} {mg : Str → Option Value} {base : Heap} {j k : Nat} {f : Addr} {fd : FuncData} {ps : List Str} {sp : Sp} (F : FnG P w K mg base j f fd ps sp) (h : j ≤ k) :
    FnG P w K mg base k f fd ps sp := ⟨F.len, fun A outer s H args us vs Q E hr => F.run A outer s H args us vs Q E (hr.mono h)⟩
theorem FnG.imp {P : Program} {w : World} {K : PySem.W.Frag} {mg : Str → Option Value} {base : Heap} {k : Nat} {f : Addr} {fd : FuncData} {ps : List Str} {sp sp' : Sp} (F : FnG P w K mg base k f fd ps sp)
    (h : ∀ vs H Q E, sp' vs H Q E → sp vs H Q E) : FnG P w K mg base k f fd ps sp' :=
  ⟨fun vs H Q E q => F.len vs H Q E (h _ _ _ _ q), fun A outer s H args us vs Q E hr hg he hb hv hs => F.run A outer s H args us vs Q E hr hg he hb hv (h _ _ _ _ hs)⟩
theorem FnG.of {P : Program} {w : World} {K : PySem.W.Frag} {mg : Str → Option Value} {base : Heap} {k : Nat} {f : Addr} {fd : FuncData} {ps : List Str} {sp : Sp} (F : FnOk P w K mg base (L2N.CX P w) k f fd ps sp) : FnG P w K mg base k f fd ps sp :=
  ⟨F.len, fun A outer s H args us vs Q E hr _ => F.run A outer s H args us vs Q E hr⟩
/-- a name that a call of the def binds is a local or a cell -/
theorem fnScope_kinds {N ps : List Str} {sc : Scope} (S : FnScope N ps sc) {n : Nat} {us : List Value} {y : Str × Value} (hy : y ∈ ps.zip us) :
    sc.names.lookup y.1 = some .local ∨ (sc.names.lookup y.1 = some .cell ∧ ((cellsFrom n sc.names []).lookup y.1).isSome = true) :=
  (S.par y.1 (List.of_mem_zip hy).1).imp_right fun c => ⟨c, PySem.W.cellsFrom_some _ _ _ (.inl c)⟩
/-- a call has ended with a value or with an exception -/
theorem cr_ends {CX : CXT} {outer : List PySem.Env} {P : Program} {w : World} {H : Hp} {s s' : Shared} {Q : VK} {E : XK} {r : Result} (c : CR CX outer P w H s Q E r s') :
    (∃ u, r = .ok (.ret u) ∧ CE outer P w H s Q u s') ∨ ∃ u, r = .error u ∧ CX outer H s E u s' := by
  match r, c with
  | .ok (.ret u), c => exact .inl ⟨u, rfl, c⟩
  | .ok .next, c => exact c.elim
  | .ok .brk, c => exact c.elim
  | .ok .cont, c => exact c.elim
  | .error u, c => exact .inr ⟨u, rfl, c⟩
/-- a call, by how it may end -/
theorem wp_ends {CX : CXT} {M : Model} {A : Around} {f : Value} {us : List Value} {outer : List PySem.Env} {P : Program} {w : World} {H : Hp} {s s1 : Shared} {Q : VK} {E : XK} {R : Value → Shared → Prop} {B : Value → Shared → Prop}
    (c : codeAny M A (.call f ⟨us, []⟩) (CR CX outer P w H s1 Q E) s) (good : ∀ u s', CE outer P w H s1 Q u s' → R u s') (bad : ∀ u s', CX outer H s1 E u s' → B u s') : wpAny M A (call f us) R B s :=
  wpAny_call (codeAny_mono c fun _ s' e => by
    rcases cr_ends e with ⟨u, rfl, q⟩ | ⟨u, rfl, q⟩
    · exact good u s' q
    · exact bad u s' q)
theorem fnG_of {P : Program} {w : World} {K : PySem.W.Frag} {mg : Str → Option Value} {base : Heap} {k : Nat} {f : Addr} {name qual : Str} {params : Arguments} {body : List Stmt} {scope : Scope} {dV kV doc pm cdv ct oc : Value} {an od : Option Addr} {osl : Array (Option Value)} {N ps : List Str} {sp : Sp}
    (lk : K.lookup f = some ⟨oc, od, .func (PySem.W.fnOf name qual params body scope dV kV doc pm an cdv ct), osl⟩) (hcd : PySem.W.codeIn K cdv qual = true) (S : FnScope N ps scope) (len : ∀ vs H Q E, sp vs H Q E → vs.length = ps.length)
    (hbody : ∀ (A : Around) (outer : List PySem.Env) (s : Shared) (H : Hp) (vs : List V) (Q : VK) (E : XK), Room k (A.deeper (envOfC qual scope s.heap.objs.size f cdv)) → A.guards = some [] → sp vs H Q E →
      ∃ t, PSs (cxOf (L2N.CX P w) P w K mg base N qual scope f cdv A outer s H E) body t ∧ t { nx := fun _ H' => Q .non H', rt := Q } (start N vs) H) :
    FnG P w K mg base (k + 1) f (PySem.W.fnOf name qual params body scope dV kV doc pm an cdv ct) ps sp := by
  refine ⟨len, fun A outer s H args us vs Q E room gs e0 bt vv z => ?_⟩
  obtain ⟨t, walked, holds⟩ := hbody A outer s H vs Q E (room.deeper _) gs z
  have stay : ∀ b o, base.get? b = some o → s.heap.get? b = some o := fun b o e => (e0.bs b o e).1
  have kin := e0.mod.kin.keeps stay
  refine codeAny_call_function room.depth (kin _ _ lk) rfl S.co S.gen rfl (PySem.W.codeRec_of kin hcd) (bt _ _ _ _ (wpAny_newFunctionEnv_cells S.kind (fun y hy => fnScope_kinds S hy) fun env he s1 x => ?_))
  subst he
  refine ⟨(e0.mod.nolimit.keeps stay).keeps x.toInCall.keep, codeAny_func (wpAny_mono (walked.run [] s1 _ H _ (inv_start S room.hd e0 (len _ _ _ _ z) vv x) holds) (fun fl s' => ?_) fun _ _ => id)⟩
  match fl with
  | .ret u => exact fun ⟨v, σ', H', J, rv, q⟩ => ⟨v, H', J.os, J.bare, J.base, J.hok, rv, q⟩
  | .next => exact fun ⟨σ', H', J, q⟩ => ⟨.non, H', J.os, J.bare, J.base, J.hok, rfl, q⟩
  | .brk => exact fun ⟨_, _, _, q⟩ => q.elim
  | .cont => exact fun ⟨_, _, _, q⟩ => q.elim
abbrev FnM (P : Program) (w : World) (K : PySem.W.Frag) (mg : Str → Option Value) (base : Heap) (k : Nat) (f : Addr) (fd : FuncData) (ps : List Str) (Φ : Spec) : Prop := FnG P w K mg base k f fd ps (LSp K Φ)
/-- a weaker promise -/
theorem FnM.imp {P : Program} {w : World} {K : PySem.W.Frag} {mg : Str → Option Value} {base : Heap} {k : Nat} {f : Addr} {fd : FuncData} {ps : List Str} {Φ Ψ : Spec} (F : FnM P w K mg base k f fd ps Φ) (h : ∀ a h q e, Ψ a h q e → Φ a h q e) : FnM P w K mg base k f fd ps Ψ :=
  FnG.imp F fun vs H Q E ⟨args, h', q, e, a, b, c, d⟩ => ⟨args, h', q, e, a, b, h _ _ _ _ c, d⟩
/-- what a body's end means for its def -/
def bodyD (q : QV) (e : QX) : MD := ⟨fun _ h => QV.wk q .non h, QV.wk q, fun _ _ => False, fun _ _ => False, fun x _ h => QX.wk e x h⟩
/-- what a def's body finds around it -/
structure Here (P : Program) (w : World) (K : PySem.W.Frag) (mg : Str → Option Value) (base : Heap) (N : List Str) (scope : Scope) (k : Nat) (X : Cx) : Prop where
  prog : X.prog = P
  w : X.w = w
  K : X.K = K
  mg : X.mg = mg
  base : X.base = base
  N : X.N = N
  scope : X.env.scope = scope
  calm : X.calm = true
  fn : X.fn = fun _ => true
  room : Room k X.A
  guards : X.A.guards = some []
  stack : X.stack = X.env :: X.outer
  frame : X.env.frame = some X.env.locals
  passes : PassesOwn (model X.prog X.w) X.A X.env X.xe
/-- THE RULE for a def: N its names, parameters first -/
theorem fnM {P : Program} {w : World} {K : PySem.W.Frag} {mg : Str → Option Value} {base : Heap} {x qual : Str} {params : Arguments} {body : List Stmt} {scope : Scope} {dvs : List V} {kws : List (Str × V)} {f : Addr} {fd : FuncData} {N ps : List Str} {k : Nat} {Φ : Spec}
    (F : FunD K x qual params body scope dvs kws f fd) (S : FnScope N ps scope) (len : ∀ args h q e, Φ args h q e → args.length = ps.length)
    (hbody : ∀ (cdv : Value) (A : Around) (outer : List PySem.Env) (s : Shared) (H : Hp) (E : XK), Room k (A.deeper (envOfC qual scope s.heap.objs.size f cdv)) → A.guards = some [] →
      ∃ b, SSs (cxOf (L2N.CX P w) P w K mg base N qual scope f cdv A outer s H E) body b ∧ ∀ args h q e, Φ args h q e → b (startM N.length args) h (bodyD q e)) : FnM P w K mg base (k + 1) f fd ps Φ := by
  obtain ⟨_, _, _, _, _, _, _, cdv, _, _, rfl, lk, hcd, _⟩ := F.ex
  refine fnG_of lk hcd S (fun vs H Q E ⟨args, h, q, e, rv, _, φ, _, _⟩ => by rw [← rv.length]; exact len _ _ _ _ φ) fun A outer s H vs Q E hr hgu ⟨args, h, q, e, rv, hh, φ, k1, k2⟩ => ?_
  obtain ⟨b, hb, hq⟩ := hbody cdv A outer s H E hr hgu
  refine ⟨_, hb, startM N.length args, h, bodyD q e, SR.start rv, hh, ?_, hq args h q e φ, ?_, ?_, ?_, ?_⟩
  · refine (L2N.takes_of (X := cxOf (L2N.CX P w) P w K mg base N qual scope f cdv A outer s H E) rfl rfl rfl rfl).imp fun cls d σ' H' ⟨mx, ρ', h', t, _, hh', rx, h2, l, z⟩ => ?_
    exact k2 mx cls d h2 H' t (hh'.le l) rx z
  · intro ρ' σ' h' H' t _ hh' ⟨h2, l, z⟩
    exact k1 .non .non h2 H' t (hh'.le l) (by simp) z
  · intro mv v h' H' t hh' vr ⟨h2, l, z⟩
    exact k1 mv v h2 H' t (hh'.le l) vr z
  · intro _ _ _ _ _ _ _ z; exact z.elim
  · intro _ _ _ _ _ _ _ z; exact z.elim

/-! ### calls by values -/
def CallM (X : Cx) (f : Value) (Φ : Spec) : Prop :=
  ∀ (pins : List (Addr × Obj)) (s : Shared) (σ : L2.St) (H : Hp) (ρ : En) (h : MH) (args : List MV) (vs : List V) (us : List Value) (q : QV) (e : QX) (Q : VK), Inv X pins σ H s → SR X.K H ρ σ → HR X.K h H → Takes X (LW X.K H ρ e) → VRs X.K H args vs → Vals vs us → Φ args h q e →
    (∀ mv v h' H', TK H H' → HR X.K h' H' → VR X.K H' mv v → q mv h' → Q v H') → wpAny (model X.prog X.w) X.A (call f us) (EP X pins σ Q) X.xe s
section
variable {X : Cx} {k : Nat} {f C : Addr} {fd : FuncData} {ps : List Str} {Φ : Spec} {dms : List MV} {dvs : List V} {ds : List Value}
/-- written defaults -/
structure Dfl (K : PySem.W.Frag) (dms : List MV) (dvs : List V) (ds : List Value) : Prop where
  m : ∀ H, VRs K H dms dvs
  v : Vals dvs ds
theorem Dfl.nil {K : PySem.W.Frag} : Dfl K [] [] [] := ⟨fun _ => by simp, .nil⟩
def Spec.dfl (Φ : Spec) (dms : List MV) : Spec := fun args h q e => Φ (args ++ dms) h q e
theorem run_fnG {sp : Sp} {E : L2.St → XK} {pins : List (Addr × Obj)} {σ : L2.St} {H : Hp} {s : Shared} {Q : VK} {us : List Value} {vs : List V} (F : FnG X.prog X.w X.K X.mg X.base k f fd ps sp) (hr : Room k X.A) (hgu : X.A.guards = some []) (hb : Binds X.K fd ps ds) (hd : Vals dvs ds) (hx : PassesAt (L2N.CX X.prog X.w) X σ (E σ)) (I : Inv X pins σ H s)
    (r : Vals vs us) (h : sp (vs ++ dvs) H Q (E σ)) : wpAny (model X.prog X.w) X.A (call (.ref f) us) (EP X pins σ Q) X.xe s :=
  wp_ends (F.run X.A X.stack s H ⟨us, []⟩ _ _ Q (E σ) hr hgu I.env0 (hb s us I.kIn ((r.append hd).length.symm.trans (F.len _ _ _ _ h))) (r.append hd) h) (fun _ _ => I.after) fun u s' => hx pins H s u s' I
theorem callM_fn (F : FnM X.prog X.w X.K X.mg X.base k f fd ps Φ) (hr : Room k X.A) (hgu : X.A.guards = some []) (hb : Binds X.K fd ps ds) (hd : Dfl X.K dms dvs ds) : CallM X (.ref f) (Φ.dfl dms) := by
  intro pins s σ H ρ h args vs us q e Q I sr hr' tk va vv φ k
  exact run_fnG (E := fun σ' cls d H' => LW X.K H ρ e cls d σ' H') F hr hgu hb hd.v (L2N.passAt tk σ) I vv ⟨args ++ dms, h, q, e, va.append (hd.m H), hr', φ, k, fun mx cls d h' H' t hh rx z => ⟨mx, h', t, sr.tk t, hh, rx, z⟩⟩
theorem guards_make {A : Around} {C : Addr} {us : List Value} {kw : List (Str × Value)} (h : A.guards = some []) : (A.under (.builtin "type.__call__" ⟨.ref C :: us, kw⟩)).guards = some [] := by
  unfold Around.under
  simp only
  rw [h]
  rfl
/-- C(..) -/
def mkSpec (C : Addr) (Φ : Spec) : Spec := fun args h q e => ∀ x, h.at_ x = none → Φ (.ref x :: args) (h.put x (.ins C [])) (fun v h' => v = .non ∧ q (.ref x) h') (QX.wk e)
theorem callM_make (M : Mk X.K C f) (F : FnM X.prog X.w X.K X.mg X.base k f fd ps Φ) (hr : Room (k + 1) X.A) (hgu : X.A.guards = some []) (hb : Binds X.K fd ps ds) (hd : Dfl X.K dms dvs ds) : CallM X (.ref C) (mkSpec C (Φ.dfl dms)) := by
  intro pins s σ H ρ h args vs us q e Q I sr hh tk va vv φ k
  have n1 : H (s.heap.objs.size + 1) = none := I.hok.fresh (Nat.le_succ _)
  have n2 : H s.heap.objs.size = none := I.hok.fresh (Nat.le_refl _)
  have n1' : (upd H s.heap.objs.size (.own (s.heap.objs.size + 1))) (s.heap.objs.size + 1) = none := (upd_ne (Nat.succ_ne_self _)).trans n1
  have t1 : TK H (upd H s.heap.objs.size (.own (s.heap.objs.size + 1))) := TK.new n2
  have t2 : TK H (upd (upd H s.heap.objs.size (.own (s.heap.objs.size + 1))) (s.heap.objs.size + 1) (.ins C s.heap.objs.size [])) := t1.trans (TK.new n1')
  have hh2 : HR X.K (h.put (s.heap.objs.size + 1) (.ins C [])) (upd (upd H s.heap.objs.size (.own (s.heap.objs.size + 1))) (s.heap.objs.size + 1) (.ins C s.heap.objs.size [])) :=
    (hh.new' n2).new n1' ⟨_, [], upd_same, rfl, by simp⟩
  have φ2 := φ (s.heap.objs.size + 1) (hh.free n1)
  have r2 : Vals (V.ref (s.heap.objs.size + 1) :: (vs ++ dvs)) (Value.ref (s.heap.objs.size + 1) :: (us ++ ds)) := .cons rfl (vv.append hd.v)
  have hsp : LSp X.K Φ (V.ref (s.heap.objs.size + 1) :: (vs ++ dvs)) (upd (upd H s.heap.objs.size (.own (s.heap.objs.size + 1))) (s.heap.objs.size + 1) (.ins C s.heap.objs.size [])) (fun v H2 => v = .non ∧ Q (.ref (s.heap.objs.size + 1)) H2) (fun cls d H' => LW X.K H ρ e cls d σ H') := by
    refine ⟨.ref (s.heap.objs.size + 1) :: (args ++ dms), _, _, _, VRs_cons.mpr ⟨_, _, rfl, by simp, (VRs.tk t2 _ va).append (hd.m _)⟩, hh2, φ2, ?_, ?_⟩
    · intro mv v h' H' t hh' vr ⟨e1, z⟩
      subst e1
      exact ⟨by simpa using vr, k _ _ h' H' (t2.trans t) hh' (by simp) z⟩
    · intro mx cls d h' H' t hh' rx ⟨h3, l, z⟩
      exact ⟨mx, h3, t2.trans t, sr.tk (t2.trans t), hh'.le l, rx, z⟩
  refine wpAny_call (make_map (f := f) I.kIn M.makes M.init (beq_iff_eq.mp M.fn) (codeAny_mono (F.run _ X.stack _ _ ⟨.ref (s.heap.objs.size + 1) :: us, []⟩ (.ref (s.heap.objs.size + 1) :: (us ++ ds)) _ _ _ (hr.make C us []) (guards_make hgu) ((Inv.made (C := C) I).env0.make C us [])
    (hb _ (.ref (s.heap.objs.size + 1) :: us) (Inv.made (C := C) I).kIn (r2.length.symm.trans (F.len _ _ _ _ hsp))) r2 hsp) fun r s' z => ?_))
  rcases cr_ends z with ⟨u, rfl, z⟩ | ⟨u, rfl, z⟩
  · obtain ⟨v, H', J, rv, rfl, z⟩ := (Inv.made (C := C) I).after z
    exact ⟨rv, .ref (s.heap.objs.size + 1), H', J, rfl, z⟩
  · exact tk u s' (L2N.XE.of_call (Inv.made (C := C) I) (fun _ _ _ h => h) z)
/-- a rule of the layer by values, told by Φ -/
def CallOk (X : Cx) (r : List V → Hp → VK → Prop) (Φ : Spec) : Prop := ∀ args vs h H q e (Q : VK), HR X.K h H → VRs X.K H args vs → Φ args h q e → (∀ mv v' h' H', TK H H' → HR X.K h' H' → VR X.K H' mv v' → q mv h' → Q v' H') → r vs H Q
theorem callM_r {fv : Value} {r : List V → Hp → VK → Prop} (ok : CallOk X r Φ) (hc : CallR X fv r) : CallM X fv Φ := fun pins s σ H ρ h args vs us q e Q I sr hh tk va vv φ k => hc pins s σ H vs us Q I vv (ok args vs h H q e Q hh va φ k)

/-! ### the written calls -/
def wCall (Φ : Spec) (a : WA) : WE := fun ρ h q e => a ρ h (fun xs h1 => Φ xs h1 q e) e
variable {x m : Str} {p pos apos : Pos} {e o : Expr} {es : List Expr} {a : WA} {id T : String}
theorem LE.call {fv : Value} (F : CallM X fv Φ) {pins : List (Addr × Obj)} {s : Shared} {σ : L2.St} {H : Hp} {Q : VK} {α : Type} {es : List Expr} (I : Inv X pins σ H s) (x : LE X (wCall Φ a) σ H Q) :
    LA X a σ H fun vs H1 => ∀ (s1 : Shared) (us : List Value), Inv X pins σ H1 s1 → Vals vs us → wpAny (model X.prog X.w) X.A (call fv us) (EP X pins σ Q) X.xe s1 := by
  obtain ⟨ρ, h, q, e, sr, hr, tk, w, k⟩ := x
  refine ⟨ρ, h, _, e, sr, hr, tk, w, fun mvs vs h1 H1 t1 r1 v1 w1 s1 us I1 vv => ?_⟩
  exact F pins s1 σ H1 ρ h1 mvs vs us q e Q I1 (sr.tk t1) r1 (tk_mono t1 tk) v1 vv w1 fun mv v h' H' t hh vr z => k mv v h' H' (t1.trans t) hh vr z
/-- f(e, ..), f a def or a class of the text -/
theorem se_call {f : Addr} (F : CallM X (.ref f) Φ) (hm : X.mg x = some (.ref f)) (hk : PySem.W.keepIn X.K (.ref f) = true) (hg : Gl X x) (ha : SA X (e :: es) a) (hdb : (x == ("__debug__" : Str)) = false := by decide)
    (he : starEach (e :: es) X.env = (false, eval e X.env) :: starEach es X.env := by rfl) (hpl : (backTo pos (starEach es X.env)).any (·.1) = false := by rfl) : SE X (.Call (.Name x p) (e :: es) [] pos) (wCall Φ a) := by
  exact ⟨fun pins s σ H Q I x => wpAny_Call_Name_kw (ld_glob I hg hm (PySem.W.callWith_K (h₀ := X.base) I.ok.mod.kin hk (thn (ha.run pos pins s σ H _ I (LE.call (α := Unit) (es := es) F I x)) fun us s1 ⟨vs, H1, J, r, q⟩ => ⟨J.kIn, q s1 us J r⟩) he hpl) hdb)⟩
theorem se_call0 {f : Addr} (F : CallM X (.ref f) Φ) (hm : X.mg x = some (.ref f)) (hk : PySem.W.keepIn X.K (.ref f) = true) (hg : Gl X x) (hdb : (x == ("__debug__" : Str)) = false := by decide) : SE X (.Call (.Name x p) [] [] pos) (wCall Φ wNil) := by
  exact ⟨fun pins s σ H Q I ⟨ρ, h, q, e, sr, hr, tk, w, k⟩ => wpAny_Call_Name_kw (ld_glob I hg hm (PySem.W.callWith_K0 I.kIn hk (F pins s σ H ρ h [] [] [] q e Q I sr hr tk (by simp) .nil w k)) hdb)⟩
theorem se_callB (F : CallM X (.builtin id) Φ) (hm : X.mg x = none) (hv : bootBuiltins x = some (.builtin id)) (hg : Gl X x) (ha : SA X (e :: es) a) (hn : x ≠ "__name__" := by decide) (hdb : (x == ("__debug__" : Str)) = false := by decide)
    (he : starEach (e :: es) X.env = (false, eval e X.env) :: starEach es X.env := by rfl) (hpl : (backTo pos (starEach es X.env)).any (·.1) = false := by rfl) : SE X (.Call (.Name x p) (e :: es) [] pos) (wCall Φ a) := by
  exact ⟨fun pins s σ H Q I x => wpAny_Call_Name_kw (ld_blt I hg hm hv (PyProof.Rows.callWith_builtin1 (thn (ha.run pos pins s σ H _ I (LE.call (α := Unit) (es := es) F I x)) fun us s1 ⟨_, _, J, r, q⟩ => q s1 us J r) he hpl) hn hdb)⟩
theorem se_callTy (F : CallM X (.type T) Φ) (hm : X.mg x = none) (hv : bootBuiltins x = some (.type T)) (hg : Gl X x) (ha : SA X (e :: es) a) (hn : x ≠ "__name__" := by decide) (hdb : (x == ("__debug__" : Str)) = false := by decide)
    (he : starEach (e :: es) X.env = (false, eval e X.env) :: starEach es X.env := by rfl) (hpl : (backTo pos (starEach es X.env)).any (·.1) = false := by rfl) : SE X (.Call (.Name x p) (e :: es) [] pos) (wCall Φ a) := by
  exact ⟨fun pins s σ H Q I x => wpAny_Call_Name_kw (ld_blt I hg hm hv (PyProof.Rows.callWith_type1 (thn (ha.run pos pins s σ H _ I (LE.call (α := Unit) (es := es) F I x)) fun us s1 ⟨_, _, J, r, q⟩ => q s1 us J r) he hpl) hn hdb)⟩
/-- o.m(e, ..), o an instance of the class at C -/
def wMeth (C : Addr) (m : Str) (Φ : Spec) (o : WE) (a : WA) : WE := fun ρ h q e => o ρ h (fun x h1 => ∃ fs, insM h1 x = some (C, fs) ∧ fs.lookup m = none ∧ a ρ h1 (fun xs h2 => Φ (x :: xs) h2 q e) e) e
theorem lookup_none {α : Type} {K : PySem.W.Frag} {H : Hp} [BEq α] [LawfulBEq α] {m : α} : ∀ {fs : List (α × MV)} {gs : List (α × V)}, fs.map (·.1) = gs.map (·.1) → fs.lookup m = none → gs.lookup m = none
  | [], [], _, _ => rfl
  | [], _ :: _, e, _ => by cases e
  | _ :: _, [], e, _ => by cases e
  | (a, x) :: fs, (b, y) :: gs, e, n => by
    obtain ⟨(e1 : a = b), e2⟩ := List.cons.inj e
    subst e1
    rw [List.lookup_cons] at n ⊢
    split at n
    · cases n
    · rename_i z
      exact lookup_none (K := K) (H := H) e2 n
theorem lookup_some {α : Type} {K : PySem.W.Frag} {H : Hp} [BEq α] [LawfulBEq α] {m : α} {x : MV} : ∀ {fs : List (α × MV)} {gs : List (α × V)}, PR K H fs gs → fs.lookup m = some x → ∃ v, gs.lookup m = some v ∧ VR K H x v
  | [], _, _, n => by cases n
  | (a, y) :: fs, gs, ⟨e, r⟩, n => by
    cases gs with
    | nil => cases e
    | cons g gs =>
      obtain ⟨b, z⟩ := g
      obtain ⟨(e1 : a = b), e2⟩ := List.cons.inj e
      subst e1
      obtain ⟨v, r', e3, h1, h2⟩ := VRs_cons.mp r
      obtain ⟨(e4 : z = v), e5⟩ := List.cons.inj e3
      rw [List.lookup_cons] at n ⊢
      split at n
      · cases n
        exact ⟨z, rfl, by rw [e4]; exact h1⟩
      · rename_i zz
        exact lookup_some (K := K) (H := H) ⟨e2, by rw [e5]; exact h2⟩ n
/-- o.m(es): what the model does -/
abbrev mcall (pl : Sem Bool) (o : Expr) (m : Str) (apos : Pos) (es : List Expr) (pos : Pos) (env : PySem.Env) : Sem Value :=
  eval o env >>= fun ov => standAt apos.atName >>= fun _ => holding [ov] (getMethod ov m pl) >>= fun (f, first) => callWith pos f first (backTo pos (starEach es env)) (backToKw pos (keywordEach [] env))
/-- the object ahead of the dot is an instance of the class at C without an attribute m of its own -/
theorem LE.own {wo : WE} {σ : L2.St} {H : Hp} {Q : VK} {B : MV → En → MH → QV → QX → Prop} (x : LE X (fun ρ h q e => wo ρ h (fun x h1 => ∃ fs, insM h1 x = some (C, fs) ∧ fs.lookup m = none ∧ B x ρ h1 q e) e) σ H Q) :
    LE X wo σ H fun v H1 => ∃ xm p dx gs, v = .ref p ∧ H1 p = some (.ins C dx gs) ∧ gs.lookup m = none ∧ VR X.K H1 xm v ∧ LE X (B xm) σ H1 Q := by
  obtain ⟨ρ, h, q, e, sr, hr, tk, w, k⟩ := x
  refine ⟨ρ, h, _, e, sr, hr, tk, w, fun x v h1 H1 t1 r1 v1 ⟨fs, e1, e2, w2⟩ => ?_⟩
  obtain ⟨p, dx, gs, e0, e3, e4⟩ := ins_ok r1 v1 e1
  exact ⟨x, p, dx, gs, e0, e3, lookup_none (K := X.K) (H := H1) e4.1 e2, v1, ρ, h1, q, e, sr.tk t1, r1, tk_mono t1 tk, w2, fun mv u h2 H2 t2 => k mv u h2 H2 (t1.trans t2)⟩
theorem se_meth {pl : Sem Bool} {f : Addr} {wo : WE} (c : Cls X.K C) (hm : Meth X.K C m f) (F : CallM X (.ref f) Φ) (he : SE X o wo) (ha : SA X (e :: es) a) (hst : starEach (e :: es) X.env = (false, eval e X.env) :: starEach es X.env := by rfl)
    (hpl : (backTo pos (starEach es X.env)).any (·.1) = false := by rfl) (ht : eval (.Call (.Attribute o m apos) (e :: es) [] pos) X.env = mcall pl o m apos (e :: es) pos X.env := by rfl) : SE X (.Call (.Attribute o m apos) (e :: es) [] pos) (wMeth C m Φ wo a) :=
  ⟨fun pins s σ H Q I x => PySem.W.methodCall_KW (pl := pl) (thn (he.run pins s σ H _ I (LE.own (B := fun x ρ h q e => a ρ h (fun xs h2 => Φ (x :: xs) h2 q e) e) x)) fun u s1 ⟨v, H1, J, rv, xm, p, dx, gs, ev, ea, l, vx, y⟩ => by
    subst ev
    cases rv
    refine getmeth_ok J ea c hm l (PySem.W.callWith_K (first := [.ref p]) (h₀ := X.base) J.ok.mod.kin hm.kp ?_ hst hpl)
    refine thn (ha.run pos pins s1 σ H1 (fun vs H2 => ∀ s2 us, Inv X pins σ H2 s2 → Vals vs us → wpAny (model X.prog X.w) X.A (call (.ref f) (.ref p :: us)) (EP X pins σ Q) X.xe s2) J ?_) fun us s2 ⟨vs, H2, J2, r, go⟩ => ⟨J2.kIn, go s2 us J2 r⟩
    obtain ⟨ρ, h1, q, e', sr, hr, tk, w, k⟩ := y
    exact ⟨ρ, h1, _, e', sr, hr, tk, w, fun mvs vs h2 H2 t2 r2 v2 w2 s2 us J2 r => F pins s2 σ H2 ρ h2 (xm :: mvs) (.ref p :: vs) (.ref p :: us) q e' Q J2 (sr.tk t2) r2 (tk_mono t2 tk) (VRs_cons.mpr ⟨_, _, rfl, VR.tk t2 _ vx, v2⟩) (.cons rfl r) w2 fun mv v h' H' t => k mv v h' H' (t2.trans t)⟩) ht⟩
theorem se_meth0 {pl : Sem Bool} {f : Addr} {wo : WE} (c : Cls X.K C) (hm : Meth X.K C m f) (F : CallM X (.ref f) Φ) (he : SE X o wo) (ht : eval (.Call (.Attribute o m apos) [] [] pos) X.env = mcall pl o m apos [] pos X.env := by rfl) :
    SE X (.Call (.Attribute o m apos) [] [] pos) (wMeth C m Φ wo wNil) :=
  ⟨fun pins s σ H Q I x => PySem.W.methodCall_KW (pl := pl) (thn (he.run pins s σ H _ I (LE.own (B := fun x ρ h q e => Φ [x] h q e) x)) fun u s1 ⟨v, H1, J, rv, xm, p, dx, gs, ev, ea, l, vx, y⟩ => by
    subst ev
    cases rv
    obtain ⟨ρ, h1, q, e', sr, hr, tk, w, k⟩ := y
    exact getmeth_ok J ea c hm l (PySem.W.callWith_K0 (first := [.ref p]) J.kIn hm.kp (F pins s1 σ H1 ρ h1 [xm] [.ref p] [.ref p] q e' Q J sr hr tk (VRs_cons.mpr ⟨_, _, rfl, vx, by simp⟩) (.cons rfl .nil) w k))) ht⟩
end

/-! ### fields -/
def wFld (o : WE) (f : Str) : WE := fun ρ h q e => o ρ h (fun x h1 => match x with
  | .ref p => ∃ C fs v, h1.at_ p = some (.ins C fs) ∧ fs.lookup f = some v ∧ q v h1
  | _ => False) e
/-- the classes whose instances' attribute f is read plainly -/
def FldOk (K : PySem.W.Frag) (C : Addr) (f : Str) : Prop := Cls K C ∧ NoAttr K C f
/-- o.f where o is an instance of the class at C -/
def wFldC (C : Addr) (o : WE) (f : Str) : WE := fun ρ h q e => o ρ h (fun x h1 => ∃ fs v, insM h1 x = some (C, fs) ∧ fs.lookup f = some v ∧ q v h1) e
section
variable {X : Cx} {C : Addr} {o : Expr} {f : Str} {w : WE} {pos pos' : Pos}
theorem se_fld (c : Cls X.K C) (n : NoAttr X.K C f) (he : SE X o w) (hb : attributeBase o f X.env (eval o X.env) = eval o X.env := by rfl) : SE X (.Attribute o f pos) (wFldC C w f) :=
  PE.imp (pe_fld he hb) fun σ H Q ⟨ρ, h, q, e, sr, hr, tk, w, k⟩ => ⟨ρ, h, _, e, sr, hr, tk, w, fun x v h1 H1 t1 r1 v1 w1 => by
    obtain ⟨fs, m, e1, e2, w2⟩ := w1
    obtain ⟨p, dx, gs, e0, e3, e4⟩ := ins_ok r1 v1 e1
    obtain ⟨v', e5, e6⟩ := lookup_some e4 e2
    exact ⟨p, C, dx, gs, v', e0, e3, c, n, e5, k m v' h1 H1 t1 r1 e6 w2⟩⟩
def putM (f : Str) (v : MV) : List (Str × MV) → List (Str × MV)
  | [] => [(f, v)]
  | (g, x) :: r => if g = f then (g, v) :: r else (g, x) :: putM f v r
theorem PR.put {K : PySem.W.Frag} {H : Hp} {f : Str} {x : MV} {v : V} (q : VR K H x v) : ∀ {fs : List (Str × MV)} {gs : List (Str × V)}, PR K H fs gs → PR K H (putM f x fs) (putF f v gs)
  | [], gs, ⟨e, r⟩ => by
    cases gs with
    | nil => exact ⟨rfl, VRs_cons.mpr ⟨v, [], rfl, q, by simp⟩⟩
    | cons g gs => cases e
  | (a, y) :: fs, gs, ⟨e, r⟩ => by
    cases gs with
    | nil => cases e
    | cons g gs =>
      obtain ⟨b, z⟩ := g
      obtain ⟨(e1 : a = b), e2⟩ := List.cons.inj e
      subst e1
      obtain ⟨v', r', e3, h1, h2⟩ := VRs_cons.mp r
      obtain ⟨(e4 : z = v'), e5⟩ := List.cons.inj e3
      subst e4
      unfold putM putF
      by_cases ha : a = f
      · rw [if_pos ha, if_pos ha]
        exact ⟨by simp [e2], VRs_cons.mpr ⟨v, _, rfl, q, by rw [e5]; exact h2⟩⟩
      · rw [if_neg ha, if_neg ha]
        obtain ⟨i1, i2⟩ := PR.put (f := f) q (fs := fs) (gs := gs) ⟨e2, by rw [e5]; exact h2⟩
        exact ⟨by simp [i1], VRs_cons.mpr ⟨z, _, rfl, h1, i2⟩⟩
def sFldM (C : Addr) (o v : WE) (f : Str) : WS := fun ρ h d => v ρ h (fun y h1 => o ρ h1 (fun x h2 => match x with
  | .ref p => ∃ fs, h2.at_ p = some (.ins C fs) ∧ (fs.length < 1000 ∧ sealedN (fs.map (·.1)) = false) ∧ d.nx ρ (h2.put p (.ins C (putM f y fs)))
  | _ => False) (d.at_ ρ)) (d.at_ ρ)
theorem ss_fld {value : Expr} {wv : WE} (c : Cls X.K C) (n : NoAttr X.K C f) (ha : SE X o w) (hv : SE X value wv) (hs : swapsWith value (some (.Attribute o f pos')) pos.line X.env = pure false := by rfl) : SS X (.Assign [.Attribute o f pos'] value pos) (sFldM C w wv f) :=
  PS.imp (ps_fld ha hv hs) fun D σ H ⟨ρ, h, d, sr, hr, tk, w, n', r, b, c'⟩ => ⟨ρ, h, _, _, sr, hr, tks_at tk ρ, w, fun y u h1 H1 t1 r1 v1 w1 => ⟨ρ, h1, _, _, sr.tk t1, r1, tk_mono t1 (tks_at tk ρ), w1, fun x v h2 H2 t2 r2 v2 w2 => by
    cases x with
    | ref p =>
      obtain ⟨fs, e1, ⟨e2, e2b⟩, w3⟩ := w2
      obtain ⟨dx, gs, e3, e4⟩ := r2.ob p _ e1
      have hl : gs.length < 1000 := by
        have := congrArg List.length e4.1
        simp only [List.length_map] at this
        omega
      refine ⟨p, C, dx, gs, by simpa using v2, e3, c, n, hl, ?_⟩
      have t3 : TK H2 (upd H2 p (.ins C dx (putF f u gs))) := TK.mut e3 (fun z => by
        have z : sealedN (gs.map (·.1)) = true := z
        rw [← e4.1, e2b] at z
        cases z)
      exact n' ρ σ _ _ (t1.trans (t2.trans t3)) (sr.tk (t1.trans (t2.trans t3))) (r2.set (m := .ins C (putM f y fs)) e1 t3 ⟨dx, _, upd_same, (PR.put (VR.tk t2 _ v1) e4).tk t3⟩) w3
    | _ => exact w2.elim⟩⟩
end
end MM
end
section
namespace MM
open PySem PySem.Spec PyProof.Rows L2

/-! ### sequences, data, flat values -/
def seqM (h : MH) : MV → Option (List MV)
  | .tup xs => some xs
  | .lis xs => some xs
  | .ref p => match h.at_ p with
    | some (.lst xs) => some xs
    | _ => none
  | _ => none
theorem seq_ok {K : PySem.W.Frag} {H : Hp} {h : MH} {x : MV} {v : V} {xs : List MV} (hr : HR K h H) (r : VR K H x v) (e : seqM h x = some xs) : ∃ p vs, v = .ref p ∧ (SqL K H p vs ∨ SqT K H p vs) ∧ VRs K H xs vs := by
  cases x with
  | tup ys =>
    cases e
    obtain ⟨p, vs, e1, q, rs⟩ := VR_tup.mp r
    exact ⟨p, vs, e1, .inr q, rs⟩
  | lis ys =>
    cases e
    obtain ⟨p, vs, e1, q, rs⟩ := VR_lis.mp r
    exact ⟨p, vs, e1, .inl q.sq, rs⟩
  | ref p =>
    simp only [seqM] at e
    split at e
    · rename_i ys ey
      cases e
      obtain ⟨vs, e1, rs⟩ := hr.ob p _ ey
      exact ⟨p, vs, by simpa using r, .inl (SqL.of e1), rs⟩
    · cases e
  | _ => cases e
def flatM : MV → Bool
  | .non => true | .bl _ => true | .int _ => true | .str _ => true
  | _ => false
def eqM : MV → MV → Bool
  | .non, .non => true
  | .bl a, .bl b => a == b
  | .bl t, .int n => (if t then 1 else 0) == n
  | .int n, .bl t => n == (if t then 1 else 0)
  | .int a, .int b => a == b
  | .str a, .str b => a == b
  | _, _ => false
section
variable {K : PySem.W.Frag} {H : Hp} {h : MH}
theorem flat_ok {x : MV} {v : V} (r : VR K H x v) (f : flatM x = true) : flatV v = true := by
  cases x <;> simp [flatM] at f <;> (simp at r; subst r; rfl)
theorem eq_ok {x y : MV} {v u : V} (r : VR K H x v) (s : VR K H y u) (f : flatM x = true) (g : flatM y = true) : eqV v u = eqM x y := by
  cases x <;> simp [flatM] at f <;> cases y <;> simp [flatM] at g <;> (simp at r s; subst r s; rfl)
theorem flats_ok : ∀ {xs : List MV} {vs : List V}, VRs K H xs vs → xs.all flatM = true → vs.all flatV = true
  | [], _, r, _ => by rw [VRs_nil] at r; subst r; rfl
  | x :: xs, _, r, f => by
    obtain ⟨v, u, e, a, b⟩ := VRs_cons.mp r
    subst e
    rw [List.all_cons, Bool.and_eq_true] at f ⊢
    exact ⟨flat_ok a f.1, flats_ok b f.2⟩
theorem in_ok {y : MV} {u : V} (s : VR K H y u) (g : flatM y = true) : ∀ {xs : List MV} {vs : List V}, VRs K H xs vs → xs.all flatM = true → inV u vs = xs.any fun z => eqM z y
  | [], _, r, _ => by rw [VRs_nil] at r; subst r; rfl
  | x :: xs, _, r, f => by
    obtain ⟨v, w, e, a, b⟩ := VRs_cons.mp r
    subst e
    have f := Bool.and_eq_true_iff.mp f
    unfold inV
    rw [List.any_cons, List.any_cons, eq_ok a s f.1 g]
    have := in_ok s g b f.2
    unfold inV at this
    rw [this]
end
mutual
def DT (h : MH) : PyData → MV → Prop
  | .none, x => x = .non
  | .bool b, x => x = .bl b
  | .int i, x => x = .int i
  | .str z, x => x = .str z
  | .tuple ds, x => ∃ xs, x = .tup xs ∧ DTs h ds xs
  | .list ds, x => (∃ xs, x = .lis xs ∧ DTs h ds xs) ∨ ∃ p xs, x = .ref p ∧ h.at_ p = some (.lst xs) ∧ DTs h ds xs
  | .dict _, _ => False
def DTs (h : MH) : List PyData → List MV → Prop
  | [], xs => xs = []
  | d :: ds, xs => ∃ x r, xs = x :: r ∧ DT h d x ∧ DTs h ds r
end
mutual
theorem DT.dp {K : PySem.W.Frag} {H : Hp} {h : MH} (hr : HR K h H) : ∀ (d : PyData) {x : MV} {v : V}, DT h d x → VR K H x v → Dp K H v d
  | .none, x, v, t, r => by rw [DT] at t; subst t; simp at r; subst r; exact .non
  | .bool b, x, v, t, r => by rw [DT] at t; subst t; simp at r; subst r; exact .bl b
  | .int b, x, v, t, r => by rw [DT] at t; subst t; simp at r; subst r; exact .int b
  | .str b, x, v, t, r => by rw [DT] at t; subst t; simp at r; subst r; exact .str b
  | .tuple ds, x, v, t, r => by
    rw [DT] at t
    obtain ⟨xs, e, ts⟩ := t
    subst e
    obtain ⟨p, vs, e, q, rs⟩ := VR_tup.mp r
    subst e
    exact .tup q (DTs.dp hr ds ts rs)
  | .list ds, x, v, t, r => by
    rw [DT] at t
    rcases t with ⟨xs, e, ts⟩ | ⟨p, xs, e, ep, ts⟩
    · subst e
      obtain ⟨p, vs, e, q, rs⟩ := VR_lis.mp r
      subst e
      exact .lst q.sq (DTs.dp hr ds ts rs)
    · subst e
      obtain ⟨vs, e1, rs⟩ := hr.ob p _ ep
      simp at r
      subst r
      exact .lst (SqL.of e1) (DTs.dp hr ds ts rs)
  | .dict _, x, v, t, r => by rw [DT] at t; exact t.elim
theorem DTs.dp {K : PySem.W.Frag} {H : Hp} {h : MH} (hr : HR K h H) : ∀ (ds : List PyData) {xs : List MV} {vs : List V}, DTs h ds xs → VRs K H xs vs → DpAll K H vs ds
  | [], xs, vs, t, r => by rw [DTs] at t; subst t; rw [VRs_nil] at r; subst r; exact .nil
  | d :: ds, xs, vs, t, r => by
    rw [DTs] at t
    obtain ⟨x, r', e, t1, t2⟩ := t
    subst e
    obtain ⟨v, u, e, a, b⟩ := VRs_cons.mp r
    subst e
    exact .cons (DT.dp hr d t1 a) (DTs.dp hr ds t2 b)
end

section
variable {X : Cx}
abbrev ret (x : MV) (h : MH) (q : QV) : Prop := q x h
/-! ### numbers -/
theorem ok_int {r : R2} {B : B2} {g : Int → Int → V} {gm : Int → Int → MV} {C : Int → Int → Prop} (hr : ∀ i j H Q, C i j → Q (g i j) H → r (.int i) (.int j) H Q) (hg : ∀ i j H, VR X.K H (gm i j) (g i j))
    (hB : ∀ x y h q e, B x y h q e → ∃ i j, x = .int i ∧ y = .int j ∧ C i j ∧ q (gm i j) h) : B2Ok X r B := fun x y v u h H q e Q hh rx ry b k => by
  obtain ⟨i, j, e1, e2, c, z⟩ := hB x y h q e b
  subst e1 e2
  simp at rx ry
  subst rx ry
  exact hr i j H Q c (k (gm i j) (g i j) h H (TK.refl H) hh (hg i j H) z)
def bSub : B2 := fun x y h q _ => match x, y with | .int i, .int j => q (.int (i - j)) h | _, _ => False
def bMod : B2 := fun x y h q _ => match x, y with | .int i, .int j => 0 < j ∧ q (.int (i % j)) h | _, _ => False
def bDiv : B2 := fun x y h q _ => match x, y with | .int i, .int j => (0 < j ∧ j < 1073741824) ∧ q (.int (i / j)) h | _, _ => False
def bPow : B2 := fun x y h q _ => match x, y with | .int i, .int j => CPow i j ∧ q (.int (i ^ j.toNat)) h | _, _ => False
def bLt : B2 := fun x y h q _ => match x, y with | .int i, .int j => q (.bl (decide (i < j))) h | _, _ => False
def bLe : B2 := fun x y h q _ => match x, y with | .int i, .int j => q (.bl (decide (i ≤ j))) h | _, _ => False
def bGt : B2 := fun x y h q _ => match x, y with | .int i, .int j => q (.bl (decide (j < i))) h | _, _ => False
def bGe : B2 := fun x y h q _ => match x, y with | .int i, .int j => q (.bl (decide (j ≤ i))) h | _, _ => False
theorem ok_sub : B2Ok X (rI0 fun i j => .int (i - j)) bSub := ok_int (C := fun _ _ => True) (fun i j H Q _ z => ⟨i, j, rfl, rfl, z⟩) (fun _ _ _ => VR_int.mpr rfl) fun x y h q e b => by
  cases x <;> cases y <;> first | exact b.elim | exact ⟨_, _, rfl, rfl, trivial, b⟩
theorem ok_mod : B2Ok X (rI (fun _ j => 0 < j) fun i j => .int (i % j)) bMod := ok_int (C := fun _ j => 0 < j) (fun i j H Q c z => ⟨i, j, rfl, rfl, c, z⟩) (fun _ _ _ => VR_int.mpr rfl) fun x y h q e b => by
  cases x <;> cases y <;> first | exact b.elim | exact ⟨_, _, rfl, rfl, b.1, b.2⟩
theorem ok_div : B2Ok X (rI CDiv fun i j => .int (i / j)) bDiv := ok_int (C := CDiv) (fun i j H Q c z => ⟨i, j, rfl, rfl, c, z⟩) (fun _ _ _ => VR_int.mpr rfl) fun x y h q e b => by
  cases x <;> cases y <;> first | exact b.elim | exact ⟨_, _, rfl, rfl, b.1, b.2⟩
theorem ok_pow : B2Ok X (rI CPow fun i j => .int (i ^ j.toNat)) bPow := ok_int (C := CPow) (fun i j H Q c z => ⟨i, j, rfl, rfl, c, z⟩) (fun _ _ _ => VR_int.mpr rfl) fun x y h q e b => by
  cases x <;> cases y <;> first | exact b.elim | exact ⟨_, _, rfl, rfl, b.1, b.2⟩
theorem ok_lt : B2Ok X (rI0 fun i j => .bl (decide (i < j))) bLt := ok_int (C := fun _ _ => True) (fun i j H Q _ z => ⟨i, j, rfl, rfl, z⟩) (fun _ _ _ => VR_bl.mpr rfl) fun x y h q e b => by
  cases x <;> cases y <;> first | exact b.elim | exact ⟨_, _, rfl, rfl, trivial, b⟩
theorem ok_le : B2Ok X (rI0 fun i j => .bl (decide (i ≤ j))) bLe := ok_int (C := fun _ _ => True) (fun i j H Q _ z => ⟨i, j, rfl, rfl, z⟩) (fun _ _ _ => VR_bl.mpr rfl) fun x y h q e b => by
  cases x <;> cases y <;> first | exact b.elim | exact ⟨_, _, rfl, rfl, trivial, b⟩
theorem ok_gt : B2Ok X (rI0 fun i j => .bl (decide (j < i))) bGt := ok_int (C := fun _ _ => True) (fun i j H Q _ z => ⟨i, j, rfl, rfl, z⟩) (fun _ _ _ => VR_bl.mpr rfl) fun x y h q e b => by
  cases x <;> cases y <;> first | exact b.elim | exact ⟨_, _, rfl, rfl, trivial, b⟩
theorem ok_ge : B2Ok X (rI0 fun i j => .bl (decide (j ≤ i))) bGe := ok_int (C := fun _ _ => True) (fun i j H Q _ z => ⟨i, j, rfl, rfl, z⟩) (fun _ _ _ => VR_bl.mpr rfl) fun x y h q e b => by
  cases x <;> cases y <;> first | exact b.elim | exact ⟨_, _, rfl, rfl, trivial, b⟩
/-! ### + and * -/
def bAdd : B2 := fun x y h q _ => match x, y with
  | .int i, .int j => q (.int (i + j)) h
  | .str a, .str b => a.length + b.length ≤ sizeLine ∧ q (.str (a ++ b)) h
  | .tup a, .tup b => a.length + b.length ≤ sizeLine ∧ q (.tup (a ++ b)) h
  | .ref a, .ref b => ∃ xs ys, h.at_ a = some (.lst xs) ∧ h.at_ b = some (.lst ys) ∧ xs.length + ys.length ≤ sizeLine ∧ ∀ p, h.at_ p = none → q (.ref p) (h.put p (.lst (xs ++ ys)))
  | _, _ => False
abbrev rAddM (K : PySem.W.Frag) : R2 := fun x y H Q => (∃ i j, x = .int i ∧ y = .int j ∧ Q (.int (i + j)) H) ∨ (∃ i j, x = .str i ∧ y = .str j ∧ i.length + j.length ≤ sizeLine ∧ Q (.str (i ++ j)) H) ∨ rCatA K x y H Q ∨ rCat x y H Q
theorem op_addM : OpR X (binaryOp .Add) (rAddM X.K) := op_add.or (op_add_str.or (op_catA.or op_cat))
theorem ok_add : B2Ok X (rAddM X.K) bAdd := fun x y v u h H q e Q hh rx ry b k => by
  cases x with
  | int i =>
    cases y <;> first | exact b.elim | skip
    simp at rx ry; subst rx ry
    exact .inl ⟨_, _, rfl, rfl, k _ _ h H (TK.refl H) hh (by simp) b⟩
  | str i =>
    cases y <;> first | exact b.elim | skip
    simp at rx ry; subst rx ry
    exact .inr (.inl ⟨_, _, rfl, rfl, b.1, k _ _ h H (TK.refl H) hh (by simp) b.2⟩)
  | tup xs =>
    cases y <;> first | exact b.elim | skip
    rename_i ys
    obtain ⟨p, vs, e1, q1, r1⟩ := VR_tup.mp rx
    obtain ⟨p2, us, e2, q2, r2⟩ := VR_tup.mp ry
    subst e1 e2
    obtain ⟨b1, b2⟩ := b
    refine .inr (.inr (.inl ⟨p, p2, vs, us, rfl, rfl, q1, q2, by rw [← r1.length, ← r2.length]; exact b1, fun z => ?_, fun _ z => ?_, fun _ _ p3 n => ?_⟩))
    · subst z
      have : xs = [] := List.length_eq_zero_iff.mp (by rw [r1.length]; rfl)
      subst this
      exact k _ _ h H (TK.refl H) hh ry (by simpa using b2)
    · subst z
      have : ys = [] := List.length_eq_zero_iff.mp (by rw [r2.length]; rfl)
      subst this
      exact k _ _ h H (TK.refl H) hh rx (by simpa using b2)
    · have t := TK.new (o := .tup (vs ++ us)) n
      exact k (.tup (xs ++ ys)) _ h _ t (hh.new' n) (VR_tup.mpr ⟨p3, _, rfl, SqT.of upd_same, (r1.append r2).tk t _⟩) b2
  | ref a =>
    cases y <;> first | exact b.elim | skip
    rename_i a2
    obtain ⟨xs, ys, e1, e2, z, w⟩ := b
    obtain ⟨vs, g1, r1⟩ := hh.ob _ _ e1
    obtain ⟨us, g2, r2⟩ := hh.ob _ _ e2
    simp at rx ry; subst rx ry
    refine .inr (.inr (.inr ⟨a, a2, vs, us, rfl, rfl, g1, g2, by rw [← r1.length, ← r2.length]; exact z, fun p n => ?_⟩))
    have t := TK.new (o := .lst (vs ++ us)) n
    exact k _ _ (h.put p (.lst (xs ++ ys))) _ t (hh.new n ⟨_, upd_same, (r1.append r2).tk t _⟩) (by simp) (w p (hh.free n))
  | _ => exact b.elim
def CMulX (i j : Int) : Prop := i.natAbs.log2 + j.natAbs.log2 < 100000000
theorem CMulX.wide {i j : Int} (h : CMulX i j) : L2.CMulX i j := by
  have small : ∀ n : Int, (Builtin.Int.intBits n : Int) ≤ n.natAbs.log2 + 1 := fun n => by
    unfold Builtin.Int.intBits
    split <;> omega
  have a := small i
  have b := small j
  unfold CMulX at h
  unfold L2.CMulX
  omega
theorem CMulX.ok {i j : Int} (h : CMulX i j) : IntMulOk i j := L2.CMulX.ok h.wide
theorem op_mulX : OpR X (binaryOp .Mult) (rI CMulX fun i j => .int (i * j)) := fun pins s σ H x y v u Q I rx ry ⟨i, j, a, b, c, q⟩ => L2.op_mulX pins s σ H x y v u Q I rx ry ⟨i, j, a, b, c.wide, q⟩
def bMul : B2 := fun x y h q _ => match x, y with
  | .int i, .int j => CMulX i j ∧ q (.int (i * j)) h
  | .ref a, .int k => ∃ xs, h.at_ a = some (.lst xs) ∧ -(2 ^ 63) ≤ k ∧ k < 2 ^ 63 ∧ xs.length * k.toNat ≤ sizeLine ∧ ∀ p, h.at_ p = none → q (.ref p) (h.put p (.lst (List.replicate k.toNat xs).flatten))
  | _, _ => False
theorem VRs.rep {K : PySem.W.Frag} {H : Hp} {xs : List MV} {vs : List V} (r : VRs K H xs vs) : ∀ n : Nat, VRs K H (List.replicate n xs).flatten (List.replicate n vs).flatten
  | 0 => by simp
  | n + 1 => by
    simpa only [List.replicate_succ, List.flatten_cons] using r.append (VRs.rep r n)
theorem op_mulM : OpR X (binaryOp .Mult) (fun x y H Q => rI CMulX (fun i j => .int (i * j)) x y H Q ∨ rRep x y H Q) := op_mulX.or op_rep
theorem ok_mul : B2Ok X (fun x y H Q => rI CMulX (fun i j => .int (i * j)) x y H Q ∨ rRep x y H Q) bMul := fun x y v u h H q e Q hh rx ry b k => by
  cases x with
  | int i =>
    cases y <;> first | exact b.elim | skip
    simp at rx ry; subst rx ry
    exact .inl ⟨_, _, rfl, rfl, b.1, k _ _ h H (TK.refl H) hh (by simp) b.2⟩
  | ref a =>
    cases y <;> first | exact b.elim | skip
    rename_i n'
    obtain ⟨xs, e1, k1, k2, k3, w⟩ := b
    obtain ⟨vs, g1, r1⟩ := hh.ob _ _ e1
    simp at rx ry; subst rx ry
    refine .inr ⟨a, _, vs, rfl, rfl, g1, k1, k2, by rw [← r1.length]; exact k3, fun p n => ?_⟩
    have t := TK.new (o := .lst (List.replicate n'.toNat vs).flatten) n
    exact k _ _ (h.put p (.lst (List.replicate n'.toNat xs).flatten)) _ t (hh.new n ⟨_, upd_same, (r1.rep n'.toNat).tk t _⟩) (by simp) (w p (hh.free n))
  | _ => exact b.elim
/-! ### == -/
def scalM : MV → Bool
  | .non => true | .bl _ => true | .int _ => true | .str _ => true
  | _ => false
def bEqB (n : Bool) : B2 := fun x y h q _ => match x, y with
  | .int i, .int j => q (.bl (n ^^ decide (i = j))) h
  | .str i, .str j => q (.bl (n ^^ decide (i = j))) h
  | x, y => ∃ d e, DT h d x ∧ DT h e y ∧ SeqAt.shaped d = true ∧ SeqAt.shaped e = true ∧ q (.bl (n ^^ PyData.eqv d e)) h
abbrev bEq : B2 := bEqB false
abbrev bNe : B2 := bEqB true
abbrev rEqM (K : PySem.W.Frag) : R2 := fun x y H Q => rEq x y H Q ∨ rEqD K x y H Q
abbrev rNeM (K : PySem.W.Frag) : R2 := fun x y H Q => rNe x y H Q ∨ rNeD K x y H Q
theorem op_eqM (hu : X.A.units + 64 < cLine) : OpR X (compareOp .Eq) (rEqM X.K) := op_eq.or (op_eqD hu)
theorem op_neM (hu : X.A.units + 64 < cLine) : OpR X (compareOp .NotEq) (rNeM X.K) := op_ne.or (op_neD hu)
theorem bEqB_cases {n : Bool} {x y : MV} {h : MH} {q : QV} {e : QX} (b : bEqB n x y h q e) : (∃ i j, x = .int i ∧ y = .int j ∧ q (.bl (n ^^ decide (i = j))) h) ∨ (∃ i j, x = .str i ∧ y = .str j ∧ q (.bl (n ^^ decide (i = j))) h) ∨
    ∃ d e, DT h d x ∧ DT h e y ∧ SeqAt.shaped d = true ∧ SeqAt.shaped e = true ∧ q (.bl (n ^^ PyData.eqv d e)) h := by
  unfold bEqB at b
  split at b
  · exact .inl ⟨_, _, rfl, rfl, b⟩
  · exact .inr (.inl ⟨_, _, rfl, rfl, b⟩)
  · exact .inr (.inr b)
theorem ok_eq : B2Ok X (rEqM X.K) bEq := fun x y v u h H q e Q hh rx ry b k => by
  rcases bEqB_cases b with ⟨i, j, rfl, rfl, z⟩ | ⟨i, j, rfl, rfl, z⟩ | ⟨d, d', t1, t2, s1, s2, z⟩
  · simp at rx ry; subst rx ry
    exact .inl ⟨rfl, k _ _ h H (TK.refl H) hh (by simp) z⟩
  · simp at rx ry; subst rx ry
    exact .inl ⟨rfl, k _ _ h H (TK.refl H) hh (by simp) z⟩
  · exact .inr ⟨d, d', t1.dp hh _ rx, t2.dp hh _ ry, s1, s2, k _ _ h H (TK.refl H) hh (by simp) z⟩
theorem ok_ne : B2Ok X (rNeM X.K) bNe := fun x y v u h H q e Q hh rx ry b k => by
  rcases bEqB_cases b with ⟨i, j, rfl, rfl, z⟩ | ⟨i, j, rfl, rfl, z⟩ | ⟨d, d', t1, t2, s1, s2, z⟩
  · simp at rx ry; subst rx ry
    exact .inl ⟨rfl, k _ _ h H (TK.refl H) hh (by simp) z⟩
  · simp at rx ry; subst rx ry
    exact .inl ⟨rfl, k _ _ h H (TK.refl H) hh (by simp) z⟩
  · exact .inr ⟨d, d', t1.dp hh _ rx, t2.dp hh _ ry, s1, s2, k _ _ h H (TK.refl H) hh (by simp) z⟩
/-! ### dicts' pairs -/
section
variable {κ : Type} [DecidableEq κ]
def valM (kvs : List (κ × MV)) (k : κ) : Option MV := (kvs.find? fun kv => decide (kv.1 = k)).map (·.2)
def putKM (kvs : List (κ × MV)) (k : κ) (v : MV) : List (κ × MV) :=
  if (kvs.any fun p => decide (p.1 = k)) = true then kvs.map (fun p => if p.1 = k then (p.1, v) else p) else kvs ++ [(k, v)]
def dropKM (kvs : List (κ × MV)) (k : κ) : List (κ × MV) := kvs.filter fun kv => decide (kv.1 ≠ k)
theorem pr_cons {K : PySem.W.Frag} {H : Hp} {kvs : List (κ × MV)} {gs : List (κ × V)} {p : κ × MV} (r : PR K H (p :: kvs) gs) : ∃ v gs', gs = (p.1, v) :: gs' ∧ VR K H p.2 v ∧ PR K H kvs gs' := by
  obtain ⟨e, r⟩ := r
  cases gs with
  | nil => cases e
  | cons g gs =>
    obtain ⟨b, z⟩ := g
    obtain ⟨v, r', e3, h1, h2⟩ := VRs_cons.mp r
    simp only [List.map_cons, List.cons.injEq] at e e3
    obtain ⟨e1, e2⟩ := e
    obtain ⟨e4, e5⟩ := e3
    subst e1 e4
    exact ⟨z, gs, rfl, h1, e2, by rw [e5]; exact h2⟩
theorem pr_mk {K : PySem.W.Frag} {H : Hp} {kvs : List (κ × MV)} {gs : List (κ × V)} {k : κ} {x : MV} {v : V} (a : VR K H x v) (r : PR K H kvs gs) : PR K H ((k, x) :: kvs) ((k, v) :: gs) :=
  ⟨by simp [r.1], VRs_cons.mpr ⟨v, _, rfl, a, r.2⟩⟩
theorem valM_ok {K : PySem.W.Frag} {H : Hp} {k : κ} : ∀ {kvs : List (κ × MV)} {gs : List (κ × V)}, PR K H kvs gs → (valM kvs k = none ∧ valV gs k = none) ∨ ∃ x v, valM kvs k = some x ∧ valV gs k = some v ∧ VR K H x v
  | [], gs, r => by
    have : gs = [] := by
      have := r.1
      simpa using this.symm
    subst this
    exact .inl ⟨rfl, rfl⟩
  | (a, x) :: kvs, gs, r => by
    obtain ⟨v, gs', e, rv, r'⟩ := pr_cons r
    subst e
    by_cases h : a = k
    · exact .inr ⟨x, v, by simp [valM, h], by simp [valV, h], rv⟩
    · rcases valM_ok (k := k) r' with ⟨h1, h2⟩ | ⟨x', v', h1, h2, h3⟩
      · exact .inl ⟨by simpa [valM, h] using h1, by simpa [valV, h] using h2⟩
      · exact .inr ⟨x', v', by simpa [valM, h] using h1, by simpa [valV, h] using h2, h3⟩
theorem valM_some {K : PySem.W.Frag} {H : Hp} {k : κ} {kvs : List (κ × MV)} {gs : List (κ × V)} (r : PR K H kvs gs) : (valM kvs k).isSome = (valV gs k).isSome := by
  rcases valM_ok (k := k) r with ⟨h1, h2⟩ | ⟨x', v', h1, h2, h3⟩ <;> rw [h1, h2] <;> rfl
theorem pr_any {K : PySem.W.Frag} {H : Hp} {k : κ} {kvs : List (κ × MV)} {gs : List (κ × V)} (r : PR K H kvs gs) : (kvs.any fun kv => decide (kv.1 = k)) = gs.any fun kv => decide (kv.1 = k) := by
  have e := r.1
  have h1 : (kvs.any fun kv => decide (kv.1 = k)) = (kvs.map (·.1)).any fun a => decide (a = k) := by rw [List.any_map] <;> rfl
  have h2 : (gs.any fun kv => decide (kv.1 = k)) = (gs.map (·.1)).any fun a => decide (a = k) := by rw [List.any_map] <;> rfl
  rw [h1, h2, e]
theorem pr_app {K : PySem.W.Frag} {H : Hp} {k : κ} {x : MV} {v : V} (a : VR K H x v) {kvs : List (κ × MV)} {gs : List (κ × V)} (r : PR K H kvs gs) : PR K H (kvs ++ [(k, x)]) (gs ++ [(k, v)]) :=
  ⟨by simp [r.1], by rw [List.map_append, List.map_append]; exact r.2.append (VRs_cons.mpr ⟨v, [], rfl, a, by simp⟩)⟩
theorem pr_map {K : PySem.W.Frag} {H : Hp} {k : κ} {x : MV} {v : V} (a : VR K H x v) : ∀ {kvs : List (κ × MV)} {gs : List (κ × V)}, PR K H kvs gs → PR K H (kvs.map (fun kv => if kv.1 = k then (kv.1, x) else kv)) (gs.map (fun kv => if kv.1 = k then (kv.1, v) else kv))
  | [], gs, r => by
    have : gs = [] := by
      have := r.1
      simpa using this.symm
    subst this
    exact r
  | (b, y) :: kvs, gs, r => by
    obtain ⟨u, gs', e, rv, r'⟩ := pr_cons r
    subst e
    by_cases h : b = k
    · subst h
      rw [List.map_cons, List.map_cons, if_pos rfl, if_pos rfl]
      exact pr_mk a (pr_map a r')
    · rw [List.map_cons, List.map_cons, if_neg h, if_neg h]
      exact pr_mk rv (pr_map a r')
theorem pr_put {K : PySem.W.Frag} {H : Hp} {k : κ} {x : MV} {v : V} (a : VR K H x v) {kvs : List (κ × MV)} {gs : List (κ × V)} (r : PR K H kvs gs) : PR K H (putKM kvs k x) (putK gs k v) := by
  unfold putKM putK
  rw [pr_any r]
  split
  · exact pr_map a r
  · exact pr_app a r
end
/-! ### in -/
def bInB (n : Bool) : B2 := fun x y h q _ => match y with
  | .str z => ∃ c, x = .str ⟨#[c]⟩ ∧ q (.bl (n ^^ decide (c ∈ z.cps.toList))) h
  | y => (∃ ys, seqM h y = some ys ∧ flatM x = true ∧ ys.all flatM = true ∧ q (.bl (n ^^ ys.any fun z => eqM z x)) h) ∨
    (∃ p kvs k, y = .ref p ∧ h.at_ p = some (.dK kvs) ∧ (match x with | .int i => k = Sum.inl i | .str z => k = Sum.inr z | _ => False) ∧ q (.bl (n ^^ (valM kvs k).isSome)) h) ∨
    (∃ p ys d ds, y = .ref p ∧ h.at_ p = some (.lst ys) ∧ DT h d x ∧ DTs h ds ys ∧ SeqAt.shaped d = true ∧ SeqAt.shaped (.list ds) = true ∧ q (.bl (n ^^ ds.any fun z => PyData.eqv z d)) h)
abbrev bIn : B2 := bInB false
abbrev bNotIn : B2 := bInB true
abbrev rInM (K : PySem.W.Frag) : R2 := fun x y H Q => (∃ (c : Nat) (z : Str), x = .str ⟨#[c]⟩ ∧ y = .str z ∧ Q (.bl (decide (c ∈ z.cps.toList))) H) ∨ rIn K false x y H Q ∨ (∃ a o, y = .ref a ∧ DGet H a x o ∧ Q (.bl o.isSome) H) ∨ rInD K x y H Q
abbrev rNotInM (K : PySem.W.Frag) : R2 := fun x y H Q => (∃ (c : Nat) (z : Str), x = .str ⟨#[c]⟩ ∧ y = .str z ∧ Q (.bl (!decide (c ∈ z.cps.toList))) H) ∨ rIn K true x y H Q ∨ (∃ a o, y = .ref a ∧ DGet H a x o ∧ Q (.bl (!o.isSome)) H) ∨ rNotInD K x y H Q
theorem op_inDct (hu : X.A.units + 1 < cLine) : OpR X (compareOp .In) (fun x y H Q => ∃ a o, y = .ref a ∧ DGet H a x o ∧ Q (.bl o.isSome) H) := fun pins s σ H x y v u Q I rx ry ⟨a, o, e, g, q⟩ => by
  subst e
  cases (show u = .ref a from ry)
  exact d_in hu I g rx fun s3 I3 => ⟨.bl o.isSome, H, I3, rfl, q⟩
theorem op_notInDct (hu : X.A.units + 1 < cLine) : OpR X (compareOp .NotIn) (fun x y H Q => ∃ a o, y = .ref a ∧ DGet H a x o ∧ Q (.bl (!o.isSome)) H) := fun pins s σ H x y v u Q I rx ry ⟨a, o, e, g, q⟩ => by
  subst e
  cases (show u = .ref a from ry)
  exact d_notIn hu I g rx fun s3 I3 => ⟨.bl (!o.isSome), H, I3, rfl, q⟩
theorem op_inM (hu : X.A.units + 65 < cLine) : OpR X (compareOp .In) (rInM X.K) := op_in_sign.or (op_in_seq.or ((op_inDct (by omega)).or (op_inD hu)))
theorem op_notInM (hu : X.A.units + 65 < cLine) : OpR X (compareOp .NotIn) (rNotInM X.K) := op_notIn_sign.or (op_notIn_seq.or ((op_notInDct (by omega)).or (op_notInD hu)))
theorem ok_in : B2Ok X (rInM X.K) bIn := fun x y v u h H q e Q hh rx ry b k => by
  have go : ∀ {b : Bool}, q (.bl b) h → Q (.bl b) H := fun {b} z => k (.bl b) _ h H (TK.refl H) hh (VR_bl.mpr rfl) z
  unfold bIn bInB at b
  split at b
  · obtain ⟨c, e1, z⟩ := b
    subst e1
    simp at rx ry; subst rx ry
    exact .inl ⟨c, _, rfl, rfl, go (by simpa using z)⟩
  · rcases b with ⟨ys, e1, f, fs, z⟩ | ⟨p, kvs, kk, e1, e2, e3, z⟩ | ⟨p, ys, d, ds, e1, e2, t1, t2, s1, s2, z⟩
    · obtain ⟨p, vs, e2, sq, rs⟩ := seq_ok hh ry e1
      exact .inr (.inl ⟨p, vs, e2, sq, flat_ok rx f, flats_ok rs fs, by rw [in_ok rx f rs fs]; exact go (by simpa using z)⟩)
    · subst e1
      simp at ry; subst ry
      obtain ⟨gs, g1, r1⟩ := hh.ob _ _ e2
      refine .inr (.inr (.inl ⟨p, _, rfl, .inl ⟨gs, kk, .inl g1, ?_, rfl⟩, ?_⟩))
      · cases x <;> first | exact e3.elim | (simp at rx; subst rx e3; rfl)
      · rw [← valM_some r1]
        exact go (by simpa using z)
    · subst e1
      refine .inr (.inr (.inr ⟨d, ds, t1.dp hh _ rx, ?_, s1, s2, go (by simpa using z)⟩))
      exact DT.dp hh (.list ds) (by rw [DT]; exact .inr ⟨p, ys, rfl, e2, t2⟩) ry
theorem ok_notIn : B2Ok X (rNotInM X.K) bNotIn := fun x y v u h H q e Q hh rx ry b k => by
  have go : ∀ {b : Bool}, q (.bl b) h → Q (.bl b) H := fun {b} z => k (.bl b) _ h H (TK.refl H) hh (VR_bl.mpr rfl) z
  unfold bNotIn bInB at b
  split at b
  · obtain ⟨c, e1, z⟩ := b
    subst e1
    simp at rx ry; subst rx ry
    exact .inl ⟨c, _, rfl, rfl, go (by simpa using z)⟩
  · rcases b with ⟨ys, e1, f, fs, z⟩ | ⟨p, kvs, kk, e1, e2, e3, z⟩ | ⟨p, ys, d, ds, e1, e2, t1, t2, s1, s2, z⟩
    · obtain ⟨p, vs, e2, sq, rs⟩ := seq_ok hh ry e1
      refine .inr (.inl ⟨p, vs, e2, sq, flat_ok rx f, flats_ok rs fs, ?_⟩)
      rw [if_pos rfl, in_ok rx f rs fs]
      exact go (by simpa using z)
    · subst e1
      simp at ry; subst ry
      obtain ⟨gs, g1, r1⟩ := hh.ob _ _ e2
      refine .inr (.inr (.inl ⟨p, _, rfl, .inl ⟨gs, kk, .inl g1, ?_, rfl⟩, ?_⟩))
      · cases x <;> first | exact e3.elim | (simp at rx; subst rx e3; rfl)
      · rw [← valM_some r1]
        exact go (by simpa using z)
    · subst e1
      refine .inr (.inr (.inr ⟨d, ds, t1.dp hh _ rx, ?_, s1, s2, go (by simpa using z)⟩))
      exact DT.dp hh (.list ds) (by rw [DT]; exact .inr ⟨p, ys, rfl, e2, t2⟩) ry
end
end MM
end
section
namespace MM
open PySem PySem.Spec PyProof.Rows L2

/-! ### what is walked -/
structure ItM where
  items : List MV
  stay : MH → Prop
abbrev WI := En → MH → (ItM → MH → Prop) → QX → Prop
/-- an iterator gives the items, while stay holds -/
structure JM (K : PySem.W.Frag) (H0 : Hp) (J : It) (it : ItM) : Prop where
  go : ∀ i H h, TK H0 H → HR K h H → it.stay h → i < it.items.length → J.go i H
  yld : ∀ i H h x H', TK H0 H → HR K h H → it.stay h → i < it.items.length → J.yld i H x H' → TK H H' ∧ HR K h H' ∧ ∃ m, it.items[i]? = some m ∧ VR K H' m x
  stop : ∀ H h, TK H0 H → HR K h H → it.stay h → J.stop it.items.length H
def LI (X : Cx) (w : WI) : TI := fun σ H R => ∃ ρ h q e, SR X.K H ρ σ ∧ HR X.K h H ∧ Takes X (LW X.K H ρ e) ∧ w ρ h q e ∧ ∀ it J h' H', TK H H' → HR X.K h' H' → JM X.K H' J it → q it h' → R J H'
abbrev SI (X : Cx) (tg e : Expr) (w : WI) : Prop := PI X tg e (LI X w)
section
variable {X : Cx} {tg : Expr}
theorem PI.imp {e : Expr} {t t' : TI} (h : PI X tg e t) (i : ∀ σ H R, t' σ H R → t σ H R) : PI X tg e t' := ⟨fun pins s σ H R I q => h.run pins s σ H R I (i _ _ _ q)⟩
theorem PI.or {e : Expr} {t t' : TI} (h : PI X tg e t) (h' : PI X tg e t') : PI X tg e (fun σ H R => t σ H R ∨ t' σ H R) := ⟨fun pins s σ H R I q => q.elim (h.run pins s σ H R I) (h'.run pins s σ H R I)⟩
/-- a value that is walked: a list (not changed within), a tuple -/
def wSeqI (w : WE) : WI := fun ρ h q e => w ρ h (fun v h1 => match seqM h1 v with
  | some items => q ⟨items, fun h2 => seqM h2 v = some items⟩ h1
  | none => False) e
theorem jm_list {K : PySem.W.Frag} {H : Hp} {p : Addr} {v : MV} {items : List MV} (rv : VR K H v (.ref p)) (nt : ∀ xs, v ≠ .tup xs) : JM K H (Itl K p) ⟨items, fun h2 => seqM h2 v = some items⟩ := by
  have at_ : ∀ H' h, TK H H' → HR K h H' → seqM h v = some items → ∃ vs, SqL K H' p vs ∧ VRs K H' items vs := fun H' h t r e => by
    cases v with
    | tup xs => exact absurd rfl (nt xs)
    | lis xs =>
      cases e
      obtain ⟨p', vs, e1, q, rs⟩ := VR_lis.mp (VR.tk t _ rv)
      cases e1
      exact ⟨vs, q.sq, rs⟩
    | ref a =>
      simp only [seqM] at e
      split at e
      · rename_i ys ey
        cases e
        obtain ⟨vs, e1, rs⟩ := r.ob a _ ey
        simp at rv
        subst rv
        exact ⟨vs, SqL.of e1, rs⟩
      · cases e
    | _ => cases e
  refine ⟨fun i H' h t r e hi => ?_, fun i H' h x H2 t r e hi y => ?_, fun H' h t r e => ?_⟩
  · obtain ⟨vs, sq, rs⟩ := at_ H' h t r e
    exact walk_list.goes i H' (by rw [← rs.length]; exact hi) sq
  · obtain ⟨vs, sq, rs⟩ := at_ H' h t r e
    obtain ⟨e1, e2⟩ := walk_list.yields i H' x H2 (by rw [← rs.length]; exact hi) sq y
    subst e1
    obtain ⟨m, e3, e4⟩ := rs.getV e2
    exact ⟨TK.refl _, r, m, e3, e4⟩
  · obtain ⟨vs, sq, rs⟩ := at_ H' h t r e
    show (Itl K p).stop items.length H'
    rw [rs.length]
    exact walk_list.stops H' sq
theorem jm_tup {K : PySem.W.Frag} {H : Hp} {p : Addr} {items : List MV} {vs : List V} {stay : MH → Prop} (sq : SqT K H p vs) (rs : VRs K H items vs) : JM K H (Itt K p) ⟨items, stay⟩ := by
  refine ⟨fun i H' h t r e hi => ?_, fun i H' h x H2 t r e hi y => ?_, fun H' h t r e => ?_⟩
  · exact walk_tup.goes i H' (by rw [← rs.length]; exact hi) (SqT.tk t sq)
  · obtain ⟨e1, e2⟩ := walk_tup.yields i H' x H2 (by rw [← rs.length]; exact hi) (SqT.tk t sq) y
    subst e1
    obtain ⟨m, e3, e4⟩ := (rs.tk t _).getV e2
    exact ⟨TK.refl _, r, m, e3, e4⟩
  · show (Itt K p).stop items.length H'
    rw [rs.length]
    exact walk_tup.stops H' (SqT.tk t sq)
/-- a list or a tuple -/
def iSeq (K : PySem.W.Frag) (tl : TE) : TI := fun σ H R => tl σ H fun v H1 => (∃ a, v = .ref a ∧ (∃ xs, SqL K H1 a xs) ∧ R (Itl K a) H1) ∨ (∃ a, v = .ref a ∧ (∃ xs, SqT K H1 a xs) ∧ R (Itt K a) H1)
theorem pi_seqA {l : Expr} {tl : TE} (hl : PE X l tl) : PI X tg l (iSeq X.K tl) := by
  refine ⟨fun pins s σ H R I x => thn (hl.run pins s σ H _ I x) fun v s1 ⟨y, H1, J, rv, way⟩ => ?_⟩
  -- the iterator is a new object at the heap's end
  have own : ∀ b ∈ [s1.heap.objs.size], _ := fun b hb => List.mem_singleton.mp hb ▸ J.fpOk (Nat.le_refl _) (J.hok.fresh (Nat.le_refl _))
  rcases way with ⟨a, rfl, ⟨_, sq⟩, q⟩ | ⟨a, rfl, ⟨_, sq⟩, q⟩ <;> cases rv
  · have at_ := J.list sq
    exact wpAny_pyIter_list at_.choose_spec.2.1.isList ⟨_, _, _, _, H1, rfl, J.kept (t' := s1.toks) fun _ _ => Heap.get?_push_of_some _, turn_list a _, ⟨_, Heap.get?_push_size _ rfl, rfl, rfl⟩, own, q⟩
  · have at_ := J.tuple sq
    exact wpAny_pyIter_tuple (show s1.heap.IsTuple a at_.choose.toArray from at_.choose_spec.2.1) ⟨_, _, _, _, H1, rfl, J.kept (t' := s1.toks) fun _ _ => Heap.get?_push_of_some _, turn_tuple a _, ⟨_, Heap.get?_push_size _ rfl, rfl, rfl⟩, own, q⟩
theorem si_seq {e : Expr} {w : WE} (h : SE X e w) : SI X tg e (wSeqI w) :=
  PI.imp (pi_seqA (tg := tg) h) fun σ H R ⟨ρ, h, q, e, sr, hr, tk, w, k⟩ => by
    show LE X _ σ H _
    exact ⟨ρ, h, _, e, sr, hr, tk, w, fun v u h1 H1 t1 r1 v1 w1 => by
      split at w1
      · rename_i items ei
        cases v with
        | tup xs =>
          cases ei
          obtain ⟨p, vs, e1, q1, rs⟩ := VR_tup.mp v1
          exact .inr ⟨p, e1, ⟨vs, q1⟩, k _ _ h1 H1 t1 r1 (jm_tup q1 rs) w1⟩
        | _ =>
          obtain ⟨p, vs, e1, q1, rs⟩ := seq_ok r1 v1 ei
          subst e1
          refine .inl ⟨p, rfl, ?_, k _ _ h1 H1 t1 r1 (jm_list v1 fun xs z => by cases z) w1⟩
          first
            | (obtain ⟨p', vs', e2, q2, _⟩ := VR_lis.mp v1; cases e2; exact ⟨vs', q2.sq⟩)
            | (simp only [seqM] at ei
               split at ei
               · rename_i ys ey
                 obtain ⟨vs', g1, _⟩ := r1.ob _ _ ey
                 simp at v1
                 subst v1
                 exact ⟨vs', SqL.of g1⟩
               · cases ei)
            | cases ei
      · exact w1.elim⟩
/-- range(..) -/
def wRange1 (a : WA) : WI := fun ρ h q e => a ρ h (fun xs h1 => match xs with
  | [.int j] => -(2 ^ 62) ≤ j ∧ j < 2 ^ 62 ∧ q ⟨(List.range j.toNat).map fun i => .int (0 + (i : Nat)), fun _ => True⟩ h1
  | _ => False) e
def wRange2 (a : WA) : WI := fun ρ h q e => a ρ h (fun xs h1 => match xs with
  | [.int i, .int j] => (-(2 ^ 62) ≤ i ∧ i < 2 ^ 62 ∧ -(2 ^ 62) ≤ j ∧ j < 2 ^ 62) ∧ q ⟨(List.range (j - i).toNat).map fun k => .int (i + (k : Nat)), fun _ => True⟩ h1
  | _ => False) e
theorem jm_range {K : PySem.W.Frag} {H : Hp} {lo : Int} {n : Nat} : JM K H (Itr lo n) ⟨(List.range n).map fun i => .int (lo + (i : Nat)), fun _ => True⟩ := by
  refine ⟨fun i H' h t r e hi => ?_, fun i H' h x H2 t r e hi y => ?_, fun H' h t r e => ?_⟩
  · show i < n
    simpa using hi
  · obtain ⟨e1, e2⟩ := y
    subst e1 e2
    have hi' : i < n := by simpa using hi
    exact ⟨TK.refl _, r, .int (lo + i), by simp [hi'], by simp⟩
  · show n ≤ _
    simp
theorem si_range1 {a : Expr} {wa : WA} {p pos : Pos} (hm : X.mg "range" = none) (hg : Gl X "range") (ha : SA X [a] wa) (hs : starEach [a] X.env = [(false, eval a X.env)] := by rfl) : SI X tg (.Call (.Name "range" p) [a] [] pos) (wRange1 wa) :=
  PI.imp (pi_range1 hg hm ha hs) fun σ H R ⟨ρ, h, q, e, sr, hr, tk, w, k⟩ => ⟨ρ, h, _, e, sr, hr, tk, w, fun xs vs h1 H1 t1 r1 v1 w1 => by
    split at w1
    · rename_i j
      obtain ⟨v, e1, e2⟩ := v1.one
      simp at e2
      subst e1 e2
      exact ⟨j, rfl, w1.1, w1.2.1, k _ _ h1 H1 t1 r1 jm_range w1.2.2⟩
    · exact w1.elim⟩
theorem si_range2 {a b : Expr} {wa : WA} {p pos : Pos} (hm : X.mg "range" = none) (hg : Gl X "range") (ha : SA X [a, b] wa) (hs : starEach [a, b] X.env = [(false, eval a X.env), (false, eval b X.env)] := by rfl) (hs2 : starEach [b] X.env = [(false, eval b X.env)] := by rfl) : SI X tg (.Call (.Name "range" p) [a, b] [] pos) (wRange2 wa) :=
  PI.imp (pi_range2 hg hm ha hs hs2) fun σ H R ⟨ρ, h, q, e, sr, hr, tk, w, k⟩ => ⟨ρ, h, _, e, sr, hr, tk, w, fun xs vs h1 H1 t1 r1 v1 w1 => by
    split at w1
    · rename_i i j
      obtain ⟨v, u, e1, e2, e3⟩ := v1.two
      simp at e2 e3
      subst e1 e2 e3
      exact ⟨i, j, rfl, w1.1, k _ _ h1 H1 t1 r1 jm_range w1.2⟩
    · exact w1.elim⟩

/-! ### the loop -/
def loopM (g : WG) (body : WS) (stay : MH → Prop) : List MV → En → MH → MD → Prop
  | [], ρ, h, d => stay h ∧ d.nx ρ h
  | x :: r, ρ, h, d => stay h ∧ g x ρ h (fun ρ1 h1 => body ρ1 h1 ⟨fun ρ2 h2 => loopM g body stay r ρ2 h2 d, d.rt, d.nx, fun ρ2 h2 => loopM g body stay r ρ2 h2 d, d.ex⟩) (d.at_ ρ)
def wFor (wi : WI) (g : WG) (body : WS) : WS := fun ρ h d => wi ρ h (fun it h1 => loopM g body it.stay it.items ρ h1 d) (d.at_ ρ)
theorem ss_for {iter : Expr} {body : List Stmt} {wi : WI} {g : WG} {wb : WS} {pos : Pos} (hp : PassesOwn (model X.prog X.w) X.A X.env X.xe) (hc : X.calm = true) (hi : SI X tg iter wi) (hg : SG X tg g) (hb : SSs X body wb)
    (hs : ∀ x, foldedSetIterable iter X.env x = pure x := by intro _; rfl) : SS X (.For tg iter body [] pos) (wFor wi g wb) :=
  PS.imp (ps_for hp hc hi hg hb hs) fun D σ H ⟨ρ, h, d, sr, hr, tk, w, n, r, b, c⟩ => by
    refine ⟨ρ, h, _, _, sr, hr, tks_at tk ρ, w, fun it J h1 H1 t1 r1 jm w1 => ?_⟩
    refine ⟨fun i m σ' H' => ∃ ρ' h', m = it.items.length - i ∧ i ≤ it.items.length ∧ TK H1 H' ∧ SR X.K H' ρ' σ' ∧ HR X.K h' H' ∧ loopM g wb it.stay (it.items.drop i) ρ' h' d, ⟨_, ρ, h1, rfl, Nat.zero_le _, TK.refl _, sr.tk t1, r1, w1⟩, ?_⟩
    rintro i m σ' H' ⟨ρ', h', rfl, hi, t2, sr2, r2, w2⟩
    rcases Nat.lt_or_ge i it.items.length with hlt | hge
    · rw [List.drop_eq_getElem_cons hlt] at w2
      obtain ⟨st, w2⟩ := w2
      refine .inr ⟨jm.go i H' h' t2 r2 st hlt, fun σ3 H3 => ∃ ρ3 h3, TK H1 H3 ∧ SR X.K H3 ρ3 σ3 ∧ HR X.K h3 H3 ∧ loopM g wb it.stay (it.items.drop (i + 1)) ρ3 h3 d, fun σ3 H3 ⟨ρ3, h3, a1, a2, a3, a4⟩ => ⟨_, by omega, ρ3, h3, rfl, hlt, a1, a2, a3, a4⟩, fun x H3 y => ?_⟩
      obtain ⟨t3, r3, mv, e3, v3⟩ := jm.yld i H' h' x H3 t2 r2 st hlt y
      rw [List.getElem?_eq_getElem hlt] at e3
      cases e3
      have tt : TK H H3 := t1.trans (t2.trans t3)
      refine ⟨_, ρ', h', _, _, v3, sr2.tk t3, r3, tks_at (tks_mono tt tk) ρ', w2, fun ρ4 σ4 h4 H4 t4 sr4 r4 w4 => ?_⟩
      have tt4 : TK H H4 := tt.trans t4
      refine ⟨ρ4, h4, ⟨fun ρ2 h2 => loopM g wb it.stay (it.items.drop (i + 1)) ρ2 h2 d, d.rt, d.nx, fun ρ2 h2 => loopM g wb it.stay (it.items.drop (i + 1)) ρ2 h2 d, d.ex⟩, sr4, r4, tks_mono tt4 tk, w4, ?_, ?_, ?_, ?_⟩
      · exact fun ρ5 σ5 h5 H5 t5 sr5 r5 w5 => ⟨ρ5, h5, t2.trans (t3.trans (t4.trans t5)), sr5, r5, w5⟩
      · exact fun mv v h5 H5 t5 r5 v5 w5 => r mv v h5 H5 (tt4.trans t5) r5 v5 w5
      · exact fun ρ5 σ5 h5 H5 t5 sr5 r5 w5 => n ρ5 σ5 h5 H5 (tt4.trans t5) sr5 r5 w5
      · exact fun ρ5 σ5 h5 H5 t5 sr5 r5 w5 => ⟨ρ5, h5, t2.trans (t3.trans (t4.trans t5)), sr5, r5, w5⟩
    · have e : i = it.items.length := by omega
      subst e
      rw [List.drop_length] at w2
      exact .inl ⟨jm.stop H' h' t2 r2 w2.1, n ρ' σ' h' H' (t1.trans t2) sr2 r2 w2.2⟩
/-! ### while -/
/-- by a word Pv and a measure -/
def wWhile (c : WT) (body : WS) : WS := fun ρ h d => ∃ (Pv : Nat → En → MH → Prop) (n : Nat), Pv n ρ h ∧ ∀ n ρ h, Pv n ρ h →
  c ρ h (fun b h1 => match b with
    | true => body ρ h1 ⟨fun ρ2 h2 => ∃ m, m < n ∧ Pv m ρ2 h2, d.rt, d.nx, fun ρ2 h2 => ∃ m, m < n ∧ Pv m ρ2 h2, d.ex⟩
    | false => d.nx ρ h1) (d.at_ ρ)
theorem ss_while {c : Expr} {body : List Stmt} {wc : WT} {wb : WS} {pos : Pos} (hp : PassesOwn (model X.prog X.w) X.A X.env X.xe) (hc : ST X c wc) (hb : SSs X body wb) : SS X (.While c body [] pos) (wWhile wc wb) :=
  PS.imp (ps_while hp hc hb) fun D σ H ⟨ρ, h, d, sr, hr, tk, ⟨Pv, n0, p0, step⟩, n, r, b, c⟩ => by
    refine ⟨fun m σ' H' => ∃ ρ' h', TK H H' ∧ SR X.K H' ρ' σ' ∧ HR X.K h' H' ∧ Pv m ρ' h', ⟨n0, ρ, h, TK.refl _, sr, hr, p0⟩, ?_⟩
    rintro m σ' H' ⟨ρ', h', t1, sr1, r1, p1⟩
    refine ⟨ρ', h', _, _, sr1, r1, tks_at (tks_mono t1 tk) ρ', step m ρ' h' p1, fun k h2 H2 t2 r2 w2 => ?_⟩
    have tt := t1.trans t2
    cases k with
    | true =>
      refine iteT ⟨fun σ3 H3 => ∃ m', m' < m ∧ ∃ ρ3 h3, TK H H3 ∧ SR X.K H3 ρ3 σ3 ∧ HR X.K h3 H3 ∧ Pv m' ρ3 h3, fun σ3 H3 z => z, ?_⟩
      refine ⟨ρ', h2, ⟨fun ρ2 h2 => ∃ m', m' < m ∧ Pv m' ρ2 h2, d.rt, d.nx, fun ρ2 h2 => ∃ m', m' < m ∧ Pv m' ρ2 h2, d.ex⟩, sr1.tk t2, r2, tks_mono tt tk, w2, ?_, ?_, ?_, ?_⟩
      · exact fun ρ5 σ5 h5 H5 t5 sr5 r5 ⟨m', lt, w5⟩ => ⟨m', lt, ρ5, h5, tt.trans t5, sr5, r5, w5⟩
      · exact fun mv v h5 H5 t5 r5 v5 w5 => r mv v h5 H5 (tt.trans t5) r5 v5 w5
      · exact fun ρ5 σ5 h5 H5 t5 sr5 r5 w5 => n ρ5 σ5 h5 H5 (tt.trans t5) sr5 r5 w5
      · exact fun ρ5 σ5 h5 H5 t5 sr5 r5 ⟨m', lt, w5⟩ => ⟨m', lt, ρ5, h5, tt.trans t5, sr5, r5, w5⟩
    | false => exact iteF (n ρ' σ' h2 H2 tt (sr1.tk t2) r2 w2)
end
end MM
end
section
namespace MM
open PySem PySem.Spec PyProof.Rows L2

section
variable {K : PySem.W.Frag} {H : Hp} {h : MH}
theorem VRs.atI {xs : List MV} {vs : List V} {i : Int} {x : MV} (r : VRs K H xs vs) (e : L2.atI xs i = some x) : ∃ v, L2.atI vs i = some v ∧ VR K H x v := by
  unfold L2.atI at e ⊢
  rw [r.length] at e
  match ixN vs.length i, e with
  | some j, e => exact r.get (show xs[j]? = some x from e)
def cutM (xs : List MV) (lo hi : Option Int) : List MV := (xs.drop (HT.sIx xs.length 0 lo)).take (HT.sIx xs.length xs.length hi - HT.sIx xs.length 0 lo)
theorem VRs.cut {xs : List MV} {vs : List V} (lo hi : Option Int) (r : VRs K H xs vs) : VRs K H (cutM xs lo hi) (cutV vs lo hi) := by
  unfold cutM cutV
  rw [r.length]
  exact (r.drop _).take _
end

/-! ### subscripts -/
section
variable {X : Cx} {a b : Expr} {wa wb : WE} {pos : Pos}
def bIx : B2 := fun x y h q _ => match y with
  | .int i => match x with
    | .str z => ∃ c, z.length ≤ sizeLine ∧ atI z.cps.toList i = some c ∧ q (.str ⟨#[c]⟩) h
    | x => ∃ xs v, seqM h x = some xs ∧ atI xs i = some v ∧ q v h
  | _ => False
theorem ok_ix : B2Ok X (rIx X.K) bIx := fun x y v u h H q e Q hh rx ry b k => by
  unfold bIx at b
  split at b
  · rename_i i
    simp at ry
    subst ry
    split at b
    · obtain ⟨c, z1, z2, z3⟩ := b
      simp at rx
      subst rx
      exact .inr (.inr ⟨_, i, c, rfl, rfl, z1, z2, k _ _ h H (TK.refl H) hh (by simp) z3⟩)
    · obtain ⟨xs, w, e1, e2, z⟩ := b
      obtain ⟨p, vs, e3, sq, rs⟩ := seq_ok hh rx e1
      obtain ⟨v', e4, rv⟩ := rs.atI e2
      subst e3
      rcases sq with sq | sq
      · exact .inl ⟨p, vs, i, v', rfl, rfl, sq, e4, k _ _ h H (TK.refl H) hh rv z⟩
      · exact .inr (.inl ⟨p, vs, i, v', rfl, rfl, sq, e4, k _ _ h H (TK.refl H) hh rv z⟩)
  · exact b.elim
theorem se_ix (ha : SE X a wa) (hb : SE X b wb) (hs : PlainIx b := by exact fun _ _ => rfl) : SE X (.Subscript a b pos) (wBin bIx wa wb) := PE.imp (pe_ix ix_seq ha hb hs) fun _ _ _ x => LE.two ok_ix x
/-- a[lo:hi] -/
abbrev WO := En → MH → (Option Int → MH → Prop) → QX → Prop
def LO (X : Cx) (w : WO) : TO := fun σ H Q => ∃ ρ h q e, SR X.K H ρ σ ∧ HR X.K h H ∧ Takes X (LW X.K H ρ e) ∧ w ρ h q e ∧ ∀ b h' H', TK H H' → HR X.K h' H' → q b h' → Q b H'
abbrev SO (X : Cx) (e : Option Expr) (w : WO) : Prop := PO X e (LO X w)
theorem PO.imp {e : Option Expr} {t t' : TO} (h : PO X e t) (i : ∀ σ H Q, t' σ H Q → t σ H Q) : PO X e t' := ⟨fun pins s σ H Q I q => h.run pins s σ H Q I (i _ _ _ q)⟩
def oNone : WO := fun _ h q _ => q none h
def oSome (w : WE) : WO := fun ρ h q e => w ρ h (fun x h1 => match x with | .int i => q (some i) h1 | _ => False) e
theorem so_none : SO X none oNone := PO.imp po_none fun σ H Q ⟨ρ, h, q, e, sr, hr, tk, w, k⟩ => k none h H (TK.refl H) hr w
theorem so_some (ha : SE X a wa) : SO X (some a) (oSome wa) := PO.imp (po_some ha) fun σ H Q ⟨ρ, h, q, e, sr, hr, tk, w, k⟩ => ⟨ρ, h, _, e, sr, hr, tk, w, fun x v h1 H1 t1 r1 v1 w1 => by
  cases x with
  | int i => exact ⟨i, by simpa using v1, k (some i) h1 H1 t1 r1 w1⟩
  | _ => exact w1.elim⟩
def cutOf (x : MV) (lo hi : Option Int) (h : MH) (q : QV) : Prop := match x with
  | .str z => z.length ≤ sizeLine ∧ q (.str (cutS z lo hi)) h
  | .tup xs => q (.tup (cutM xs lo hi)) h
  | x => ∃ xs, seqM h x = some xs ∧ ∀ p, h.at_ p = none → q (.ref p) (h.put p (.lst (cutM xs lo hi)))
def wSlice (w : WE) (lo hi : WO) : WE := fun ρ h q e => w ρ h (fun x h1 => lo ρ h1 (fun l h2 => hi ρ h2 (fun u h3 => cutOf x l u h3 q) e) e) e
abbrev rSlM (K : PySem.W.Frag) : V → Option Int → Option Int → Hp → VK → Prop := fun x lo hi H Q => rSlS x lo hi H Q ∨ rSlA K x lo hi H Q ∨ rSlL K x lo hi H Q
theorem se_slice {lo hi : Option Expr} {wl wu : WO} {p2 : Pos} (ha : SE X a wa) (hl : SO X lo wl) (hu : SO X hi wu) : SE X (.Subscript a (.Slice lo hi none p2) pos) (wSlice wa wl wu) :=
  PE.imp (pe_slice (sl_str.or (sl_tupA.or sl_list)) ha hl hu) fun σ H Q ⟨ρ, h, q, e, sr, hr, tk, w, k⟩ => ⟨ρ, h, _, e, sr, hr, tk, w, fun x v h1 H1 t1 r1 v1 w1 => ⟨ρ, h1, _, e, sr.tk t1, r1, tk_mono t1 tk, w1, fun l h2 H2 t2 r2 w2 =>
    ⟨ρ, h2, _, e, sr.tk (t1.trans t2), r2, tk_mono (t1.trans t2) tk, w2, fun u h3 H3 t3 r3 w3 => by
      have tt := t1.trans (t2.trans t3)
      have v3 := VR.tk (t2.trans t3) x v1
      unfold cutOf at w3
      split at w3
      · simp at v3
        subst v3
        exact .inl ⟨_, rfl, w3.1, k _ _ h3 H3 tt r3 (by simp) w3.2⟩
      · rename_i xs
        obtain ⟨p, vs, e1, sq, rs⟩ := VR_tup.mp v3
        subst e1
        refine .inr (.inl ⟨p, vs, rfl, sq, fun z => ?_, fun _ p' n => ?_⟩)
        · have e2 : cutM xs l u = xs := by
            unfold cutM
            rw [rs.length, z.1, z.2, List.drop_zero, Nat.sub_zero, ← rs.length, List.take_length]
          rw [e2] at w3
          exact k _ _ h3 H3 tt r3 v3 w3
        · have t4 := TK.new (o := .tup (cutV vs l u)) n
          exact k _ _ h3 _ (tt.trans t4) (r3.new' n) (VR_tup.mpr ⟨p', _, rfl, SqT.of upd_same, (rs.cut l u).tk t4 _⟩) w3
      · obtain ⟨xs, e1, w4⟩ := w3
        rename_i nz nt
        have : ∃ p vs, v = .ref p ∧ SqL X.K H3 p vs ∧ VRs X.K H3 xs vs := by
          cases x with
          | tup ys => exact absurd rfl (nt ys)
          | lis ys =>
            cases e1
            obtain ⟨p, vs, e1, q, rs⟩ := VR_lis.mp v3
            exact ⟨p, vs, e1, q.sq, rs⟩
          | ref p =>
            simp only [seqM] at e1
            split at e1
            · rename_i ys ey
              cases e1
              obtain ⟨vs, e1, rs⟩ := r3.ob p _ ey
              exact ⟨p, vs, by simpa using v3, SqL.of e1, rs⟩
            · cases e1
          | _ => cases e1
        obtain ⟨p, vs, e2, sq, rs⟩ := this
        subst e2
        refine .inr (.inr ⟨p, vs, rfl, sq, fun p' n => ?_⟩)
        have t4 := TK.new (o := .lst (cutV vs l u)) n
        exact k _ _ (h3.put p' (.lst (cutM xs l u))) _ (tt.trans t4) (r3.new n ⟨_, upd_same, (rs.cut l u).tk t4 _⟩) (by simp) (w4 p' (r3.free n))⟩⟩⟩
/-- d[k] of a dict with int and text keys -/
def keyM : MV → Option Key
  | .int i => some (.inl i)
  | .str z => some (.inr z)
  | _ => none
theorem key_ok {K : PySem.W.Frag} {H : Hp} {x : MV} {v : V} {k : Key} (r : VR K H x v) (e : keyM x = some k) : v = kV k := by
  cases x <;> simp [keyM] at e <;> (subst e; simp at r; exact r)
def bGet : B2 := fun x y h q _ => match x with
  | .ref p => ∃ kvs k v, h.at_ p = some (.dK kvs) ∧ keyM y = some k ∧ valM kvs k = some v ∧ q v h
  | _ => False
theorem se_get (hu : X.A.units + 1 < cLine) (ha : SE X a wa) (hb : SE X b wb) (hs : NoSl b := by exact fun _ _ => rfl) : SE X (.Subscript a b pos) (wBin bGet wa wb) :=
  PE.imp (pe_dget hu ha hb hs) fun σ H Q ⟨ρ, h, q, e, sr, hr, tk, w, k⟩ => ⟨ρ, h, _, e, sr, hr, tk, w, fun x v h1 H1 t1 r1 v1 w1 => ⟨ρ, h1, _, e, sr.tk t1, r1, tk_mono t1 tk, w1, fun y u h2 H2 t2 r2 v2 w2 => by
    cases x with
    | ref p =>
      obtain ⟨kvs, kk, m, e1, e2, e3, w3⟩ := w2
      obtain ⟨gs, g1, gr⟩ := r2.ob p _ e1
      rcases valM_ok (k := kk) gr with ⟨z, _⟩ | ⟨m', v', z1, z2, z3⟩
      · rw [e3] at z; cases z
      · rw [e3] at z1
        cases z1
        exact ⟨p, v', by simpa using v1, .inl ⟨gs, kk, .inl g1, key_ok v2 e2, z2.symm⟩, k _ _ h2 H2 (t1.trans t2) r2 z3 w3⟩
    | _ => exact w2.elim⟩⟩

/-! ### built-ins by values -/
def LenM (x : MV) (h : MH) (q : QV) : Prop := match x with
  | .str z => z.length ≤ sizeLine ∧ q (.int z.length) h
  | x => ∃ xs, seqM h x = some xs ∧ q (.int xs.length) h
def spLen : Spec := fun args h q _ => match args with | [x] => LenM x h q | _ => False
theorem ok_len : CallOk X (fun xs H Q => ∃ x n, xs = [x] ∧ LenV X.K x H n ∧ Q (.int n) H) spLen := fun args vs h H q e Q hh va φ k => by
  unfold spLen at φ
  split at φ
  · obtain ⟨v, e1, rv⟩ := va.one
    subst e1
    unfold LenM at φ
    split at φ
    · simp at rv
      subst rv
      exact ⟨_, _, rfl, ⟨φ.1, rfl⟩, k _ _ h H (TK.refl H) hh (by simp) φ.2⟩
    · obtain ⟨xs, e2, z⟩ := φ
      obtain ⟨p, us, e3, sq, rs⟩ := seq_ok hh rv e2
      subst e3
      refine ⟨_, us.length, rfl, ?_, k _ _ h H (TK.refl H) hh (by rw [rs.length]; simp) z⟩
      rcases sq with sq | sq
      · exact .inl ⟨us, sq, rfl⟩
      · exact .inr ⟨us, sq, rfl⟩
  · exact φ.elim
theorem cm_len : CallM X (.builtin "len") spLen := callM_r ok_len call_len
/-- tuple(x), list(x) -/
def spTuple : Spec := fun args h q _ => match args with | [x] => ∃ xs, seqM h x = some xs ∧ q (.tup xs) h | _ => False
theorem cm_tuple : CallM X (.type "tuple") spTuple := callM_r (fun args vs h H q e Q hh va φ k => by
  unfold spTuple at φ
  split at φ
  · obtain ⟨v, e1, rv⟩ := va.one
    subst e1
    obtain ⟨xs, e2, z⟩ := φ
    obtain ⟨p, us, e3, sq, rs⟩ := seq_ok hh rv e2
    subst e3
    refine ⟨p, us, rfl, ?_⟩
    rcases sq with sq | sq
    · refine .inl ⟨sq, fun l n => ?_⟩
      have t := TK.new (o := .tup us) n
      exact k _ _ h _ t (hh.new' n) (VR_tup.mpr ⟨l, _, rfl, SqT.of upd_same, rs.tk t _⟩) z
    · exact .inr ⟨sq, k _ _ h H (TK.refl H) hh (VR_tup.mpr ⟨p, us, rfl, sq, rs⟩) z⟩
  · exact φ.elim) call_tuple_of
def spList : Spec := fun args h q _ => match args with | [x] => ∃ xs, seqM h x = some xs ∧ ∀ p, h.at_ p = none → q (.ref p) (h.put p (.lst xs)) | _ => False
theorem cm_list : CallM X (.type "list") spList := callM_r (fun args vs h H q e Q hh va φ k => by
  unfold spList at φ
  split at φ
  · obtain ⟨v, e1, rv⟩ := va.one
    subst e1
    obtain ⟨xs, e2, z⟩ := φ
    obtain ⟨p, us, e3, sq, rs⟩ := seq_ok hh rv e2
    subst e3
    refine ⟨p, us, rfl, sq, fun l n => ?_⟩
    have t := TK.new (o := .lst us) n
    exact k _ _ (h.put l (.lst xs)) _ t (hh.new n ⟨_, upd_same, rs.tk t _⟩) (by simp) (z l (hh.free n))
  · exact φ.elim) call_list_of
/-- int(n), int(text), str(n), abs(n) -/
def spInt : Spec := fun args h q _ => match args with
  | [.int i] => q (.int i) h
  | [.bl b] => q (.int (if b then 1 else 0)) h
  | [.str a] => ∃ n, PySem.intText? a = some n ∧ a.length ≤ 640 ∧ q (.int n) h
  | _ => False
theorem CallR.or {fv : Value} {r r' : List V → Hp → VK → Prop} (a : CallR X fv r) (b : CallR X fv r') : CallR X fv (fun xs H Q => r xs H Q ∨ r' xs H Q) := fun pins s σ H xs us Q I rv q => q.elim (a pins s σ H xs us Q I rv) (b pins s σ H xs us Q I rv)
theorem cm_int : CallM X (.type "int") spInt := callM_r (fun args vs h H q e Q hh va φ k => by
  unfold spInt at φ
  split at φ
  · obtain ⟨v, e1, rv⟩ := va.one
    simp at rv
    subst e1 rv
    exact .inl (.inl ⟨_, rfl, k _ _ h H (TK.refl H) hh (by simp) φ⟩)
  · obtain ⟨v, e1, rv⟩ := va.one
    simp at rv
    subst e1 rv
    exact .inl (.inr ⟨_, rfl, k _ _ h H (TK.refl H) hh (by simp) φ⟩)
  · obtain ⟨v, e1, rv⟩ := va.one
    simp at rv
    subst e1 rv
    obtain ⟨n, z1, z2, z3⟩ := φ
    exact .inr ⟨_, n, rfl, z1, z2, k _ _ h H (TK.refl H) hh (by simp) z3⟩
  · exact φ.elim) (CallR.or call_int1 call_int_str)
def spStr : Spec := fun args h q _ => match args with
  | [.int i] => i.natAbs.log2 < 1920 ∧ q (.str (toString i)) h
  | _ => False
theorem cm_str : CallM X (.type "str") spStr := callM_r (fun args vs h H q e Q hh va φ k => by
  unfold spStr at φ
  split at φ
  · obtain ⟨v, e1, rv⟩ := va.one
    simp at rv
    subst e1 rv
    exact ⟨_, rfl, φ.1, k _ _ h H (TK.refl H) hh (by simp) φ.2⟩
  · exact φ.elim) call_str_int
def spAbs : Spec := fun args h q _ => match args with
  | [.int i] => q (.int (if i < 0 then -i else i)) h
  | _ => False
theorem cm_abs : CallM X (.builtin "abs") spAbs := callM_r (fun args vs h H q e Q hh va φ k => by
  unfold spAbs at φ
  split at φ
  · obtain ⟨v, e1, rv⟩ := va.one
    simp at rv
    subst e1 rv
    exact ⟨_, rfl, k _ _ h H (TK.refl H) hh (by simp) φ⟩
  · exact φ.elim) call_abs
theorem bls_ok {K : PySem.W.Frag} {H : Hp} : ∀ {bs : List Bool} {vs : List V}, VRs K H (bs.map MV.bl) vs → vs = bs.map V.bl
  | [], _, r => by rw [List.map_nil, VRs_nil] at r; exact r
  | b :: bs, _, r => by
    obtain ⟨v, u, e, a, c⟩ := VRs_cons.mp r
    simp at a
    subst a e
    rw [List.map_cons, bls_ok c]
def spAll : Spec := fun args h q _ => match args with | [x] => ∃ (p : Addr) (bs : List Bool), x = .ref p ∧ h.at_ p = some (.lst (bs.map MV.bl)) ∧ q (.bl (bs.all id)) h | _ => False
def spAny : Spec := fun args h q _ => match args with | [x] => ∃ (p : Addr) (bs : List Bool), x = .ref p ∧ h.at_ p = some (.lst (bs.map MV.bl)) ∧ q (.bl (bs.any id)) h | _ => False
theorem cm_all (hc : X.calm = true) : CallM X (.builtin "all") spAll := callM_r (fun args vs h H q e Q hh va φ k => by
  unfold spAll at φ
  split at φ
  · obtain ⟨v, e1, rv⟩ := va.one
    obtain ⟨p, bs, e2, e3, z⟩ := φ
    subst e1 e2
    simp at rv
    subst rv
    obtain ⟨us, g1, rs⟩ := hh.ob _ _ e3
    exact ⟨p, bs, rfl, by rw [← bls_ok rs]; exact SqL.of g1, k _ _ h H (TK.refl H) hh (by simp) z⟩
  · exact φ.elim) (cr_all hc)
theorem cm_any (hc : X.calm = true) : CallM X (.builtin "any") spAny := callM_r (fun args vs h H q e Q hh va φ k => by
  unfold spAny at φ
  split at φ
  · obtain ⟨v, e1, rv⟩ := va.one
    obtain ⟨p, bs, e2, e3, z⟩ := φ
    subst e1 e2
    simp at rv
    subst rv
    obtain ⟨us, g1, rs⟩ := hh.ob _ _ e3
    exact ⟨p, bs, rfl, by rw [← bls_ok rs]; exact SqL.of g1, k _ _ h H (TK.refl H) hh (by simp) z⟩
  · exact φ.elim) (cr_any hc)
/-! ### isinstance -/
def typM (h : MH) : MV → Option Value
  | .non => some (.type "NoneType")
  | .bl _ => some (.type "bool")
  | .int _ => some (.type "int")
  | .str _ => some (.type "str")
  | .tup _ => some (.type "tuple")
  | .lis _ => some (.type "list")
  | .ref p => match h.at_ p with
    | some (.lst _) => some (.type "list")
    | some (.dK _) => some (.type "dict")
    | some (.dT _) => some (.type "dict")
    | some (.ins C _) => some (.ref C)
    | some (.lk _ _) => none
    | none => none
  | .key _ => none
  | .obj C _ _ => some (.ref C)
  | .ty _ => none
  | .err _ _ _ _ _ => .none
  | .slc _ _ _ => .none
/-- an own class, as TyOf.ins wants it: __class__ is the one of object -/
structure InsC (K : PySem.W.Frag) (D : Addr) : Prop where
  cl : Cls K D
  ha : PySem.W.findIn K (.ref D) "__class__" = .some (.some (.builtin "object.__class__"))
  hn : PySem.W.specialIn K (.builtin "object.__class__") "__get__" = .some (.some (.builtin "getset_descriptor.__get__"))
  htk : PySem.W.takesIn K (.builtin "object.__class__") = .some true
  hm : PySem.W.mroIn K D (.type "object") = .some true
def clsM : MV → Option Value
  | .ty n => some (.type n)
  | .ref C => some (.ref C)
  | _ => none
/-- T: the answers that the text's classes give; OwnC: the classes of instances -/
def spIsi (T : Value → Value → Option Bool) : Spec := fun args h q _ => match args with
  | [x, .tup cs] => cs ≠ [] ∧ ∃ t ks b, typM h x = some t ∧ cs.mapM clsM = some ks ∧ ks.mapM (T t) = some b ∧ q (.bl (b.any id)) h
  | [x, c] => ∃ t k b, typM h x = some t ∧ clsM c = some k ∧ T t k = some b ∧ q (.bl b) h
  | _ => False
structure IsiOk (K : PySem.W.Frag) (T : Value → Value → Option Bool) : Prop where
  kit : ∀ t c b, T t c = some b → PySem.W.kitOne K t c = some b
  own : ∀ C c b, T (.ref C) c = some b → InsC K C
theorem tyx_ok {K : PySem.W.Frag} {H : Hp} {h : MH} {x : MV} {v : V} {t : Value} (hh : HR K h H) (r : VR K H x v) (e : typM h x = some t) (own : ∀ C, t = .ref C → InsC K C) : TyX K H v t := by
  cases x with
  | non => cases e; simp at r; subst r; exact .base .non
  | bl b => cases e; simp at r; subst r; exact .base (.bl b)
  | int b => cases e; simp at r; subst r; exact .base (.int b)
  | str b => cases e; simp at r; subst r; exact .base (.str b)
  | ty n => cases e
  | err a d C ns xs => cases e
  | slc a b c => cases e
  | key ks => cases e
  | tup xs =>
    cases e
    obtain ⟨p, vs, e1, sq, _⟩ := VR_tup.mp r
    subst e1
    rcases sq with (sq | ⟨o, sq⟩) | ⟨o, _, _, e2, e3, _⟩
    · exact .base (.tup sq)
    · exact .fTuple sq
    · exact .kTuple e2 e3
  | lis xs =>
    cases e
    obtain ⟨p, vs, e1, sq, _⟩ := VR_lis.mp r
    subst e1
    rcases sq.sq with (sq | ⟨o, sq⟩) | ⟨o, _, _, e2, e3, _⟩
    · exact .base (.lst sq)
    · exact .base (.frz sq)
    · exact .kList e2 e3
  | obj C ns xs =>
    cases e
    obtain ⟨p, dx, gs, e1, g, _⟩ := VR_obj.mp r
    subst e1
    obtain ⟨a, b, c, d, f⟩ := own C rfl
    exact .base (.ins g a b c d f)
  | ref p =>
    simp at r
    subst r
    simp only [typM] at e
    cases q : h.at_ p with
    | none => simp [q] at e
    | some o =>
      rw [q] at e
      have ro := hh.ob p o q
      cases o with
      | lst xs => cases e; obtain ⟨vs, g, _⟩ := ro; exact .base (.lst g)
      | dK xs => cases e; obtain ⟨vs, g, _⟩ := ro; exact .base (.dK g)
      | dT xs => cases e; obtain ⟨vs, g, _⟩ := ro; exact .base (.dT g)
      | lk o xs => cases e
      | ins C fs =>
        cases e
        obtain ⟨dx, gs, g, _⟩ := ro
        obtain ⟨a, b, c, d, f⟩ := own C rfl
        exact .base (.ins g a b c d f)
theorem clsv_ok {K : PySem.W.Frag} {H : Hp} {c : MV} {v : V} {k : Value} (r : VR K H c v) (e : clsM c = some k) : ClsV v k := by
  cases c <;> simp [clsM] at e <;> (simp at r; subst r e; constructor)
theorem clsvs_ok {K : PySem.W.Frag} {H : Hp} : ∀ {cs : List MV} {vs : List V} {ks : List Value}, VRs K H cs vs → cs.mapM clsM = some ks → Paired ClsV vs ks
  | [], vs, ks, r, e => by
    rw [VRs_nil] at r
    subst r
    simp at e
    subst e
    exact .nil
  | c :: cs, vs, ks, r, e => by
    obtain ⟨v, u, e1, a, b⟩ := VRs_cons.mp r
    subst e1
    simp only [List.mapM_cons] at e
    cases q : clsM c with
    | none => simp [q] at e
    | some k =>
      cases q2 : cs.mapM clsM with
      | none => rw [q, q2] at e; cases e
      | some ks' =>
        rw [q, q2] at e
        cases e
        exact .cons (clsv_ok a q) (clsvs_ok b q2)
theorem kitAny_ok {K : PySem.W.Frag} {T : Value → Value → Option Bool} (ok : IsiOk K T) {t : Value} : ∀ {ks : List Value} {bs : List Bool}, ks.mapM (T t) = some bs → PySem.W.kitAny K t ks = some (bs.any id)
  | [], bs, e => by simp at e; subst e; rfl
  | k :: ks, bs, e => by
    simp only [List.mapM_cons] at e
    cases q : T t k with
    | none => simp [q] at e
    | some b =>
      cases q2 : ks.mapM (T t) with
      | none => rw [q, q2] at e; cases e
      | some bs' =>
        rw [q, q2] at e
        cases e
        refine kitAny_cons (ok.kit _ _ _ q) (fun z => ?_) fun z => ?_
        · subst z
          simpa using kitAny_ok ok q2
        · subst z; simp
theorem call_isiT' : CallR X (.builtin "isinstance") (fun xs H Q => ∃ (x : V) (tp : Addr) (cs : List V) (t : Value) (us : List Value) (b : Bool), xs = [x, .ref tp] ∧ SqT X.K H tp cs ∧ Paired ClsV cs us ∧ TyX X.K H x t ∧ PySem.W.kitAny X.K t us = some b ∧ Q (.bl b) H) := by
  rintro pins s σ H _ us Q I r ⟨x, tp, cs, t, ws, b, rfl, sq, named, ty, e, q⟩
  obtain ⟨w, u, rfl, rx, rt⟩ := vals2 r
  cases (show u = .ref tp from rt)
  obtain ⟨P, Z, p, hx⟩ := kit_of I rx ty
  obtain ⟨its, rv, ⟨⟨_, dict, dat, slots⟩, here, kind, n, d⟩, _⟩ := I.tuple sq
  cases ClsV.all named rv
  cases (show _ = Value.type "tuple" from kind)
  cases (show dat = _ from d)
  exact PySem.W.kia_tup Z I.kIn p here e hx fun t => ⟨.bl b, H, I.tok t, rfl, q⟩
theorem cm_isi {T : Value → Value → Option Bool} (ok : IsiOk X.K T) : CallM X (.builtin "isinstance") (spIsi T) := callM_r (r := fun xs H Q => rIsi X.K xs H Q ∨ _) (fun args vs h H q e Q hh va φ k => by
  unfold spIsi at φ
  split at φ
  · rename_i x cs
    obtain ⟨v, u, e1, r1, r2⟩ := va.two
    obtain ⟨nn, t, ks, bs, e2, e3, e4, z⟩ := φ
    subst e1
    obtain ⟨p, us, e5, sq, rs⟩ := VR_tup.mp r2
    subst e5
    refine .inr ⟨v, p, us, t, ks, _, rfl, sq, clsvs_ok rs e3, tyx_ok hh r1 e2 fun C eC => ?_, kitAny_ok ok e4, k _ _ h H (TK.refl H) hh (by simp) z⟩
    subst eC
    cases ks with
    | nil =>
      cases cs with
      | nil =>
        exact absurd rfl nn
      | cons c cs =>
        simp only [List.mapM_cons] at e3
        cases q1 : clsM c with
        | none => rw [q1] at e3; cases e3
        | some _ =>
          cases q2 : cs.mapM clsM with
          | none => rw [q1, q2] at e3; cases e3
          | some _ => rw [q1, q2] at e3; cases e3
    | cons c ks =>
      simp only [List.mapM_cons] at e4
      cases q1 : T (.ref C) c with
      | none => rw [q1] at e4; cases e4
      | some b => exact ok.own C c b q1
  · rename_i x c hn
    obtain ⟨v, u, e1, r1, r2⟩ := va.two
    obtain ⟨t, kk, b, e2, e3, e4, z⟩ := φ
    subst e1
    exact .inl ⟨v, u, t, kk, b, rfl, clsv_ok r2 e3, tyx_ok hh r1 e2 fun C eC => by subst eC; exact ok.own C kk b e4, ok.kit _ _ _ e4, k _ _ h H (TK.refl H) hh (by simp) z⟩
  · exact φ.elim) (CallR.or call_isi call_isiT')
end
end MM
end
section
namespace MM
open PySem PySem.Spec PyProof.Rows L2

/-! ### targets that are tuples -/
abbrev WGs := List MV → En → MH → (En → MH → Prop) → QX → Prop
def LGs (X : Cx) (w : WGs) : TGs := fun vs σ H Q => ∃ mvs ρ h q e, VRs X.K H mvs vs ∧ SR X.K H ρ σ ∧ HR X.K h H ∧ Takes X (LW X.K H ρ e) ∧ w mvs ρ h q e ∧ ∀ ρ' σ' h' H', TK H H' → SR X.K H' ρ' σ' → HR X.K h' H' → q ρ' h' → Q σ' H'
abbrev SGs (X : Cx) (es : List Expr) (w : WGs) : Prop := PGs X es (LGs X w)
section
variable {X : Cx} {pos : Pos}
theorem PGs.imp {e : List Expr} {t t' : TGs} (h : PGs X e t) (i : ∀ v σ H Q, t' v σ H Q → t v σ H Q) : PGs X e t' := ⟨fun pins s σ H v u Q I r q => h.run pins s σ H v u Q I r (i _ _ _ _ q)⟩
def gmNil : WGs := fun vs ρ h q _ => vs = [] ∧ q ρ h
/-- several plain names, by their slots -/
def gmNames : List Nat → WGs
  | [], vs, ρ, h, q, _ => vs = [] ∧ q ρ h
  | i :: is, vs, ρ, h, q, e => match vs with
    | v :: r => gmNames is r (ρ.set i (some v)) h q e
    | [] => False
theorem sgs_nil : SGs X [] (gmNames []) := PGs.imp pgs_nil fun v σ H Q ⟨mvs, ρ, h, q, e, vr, sr, hr, tk, w, k⟩ => by
  obtain ⟨e1, w⟩ := w
  subst e1
  rw [VRs_nil] at vr
  exact ⟨vr, k _ _ h H (TK.refl H) sr hr w⟩
theorem sgs_cons {i : Nat} {is : List Nat} {x : Str} {p : Pos} {es : List Expr} (hN : X.N.Nodup) (h2 : SGs X es (gmNames is)) (hi : X.N[i]? = some x := by rfl) (hx : Loc X.env.scope x := by first | exact .inl rfl | exact .inr rfl) (hf : X.fn x = true ∨ X.env.scope.names.lookup x = some .local := by first | exact .inl rfl | exact .inr rfl | assumption)
    (hs : (assignEach (.Name x p :: es) X.env).map (·.2) = assign (.Name x p) X.env :: (assignEach es X.env).map (·.2) := by rfl) : SGs X (.Name x p :: es) (gmNames (i :: is)) :=
  PGs.imp (pgs_cons (pg_name hN hi hx hf) h2 hs) fun vs σ H Q ⟨mvs, ρ, h, q, e, vr, sr, hr, tk, w, k⟩ => by
    cases mvs with
    | nil => exact w.elim
    | cons m r =>
      obtain ⟨v, r', e1, v1, v2⟩ := VRs_cons.mp vr
      subst e1
      exact ⟨v, r', rfl, r, _, h, q, (fun _ _ => False), v2, sr.set v1, hr, (by
        refine tk.imp fun _ _ _ _ ⟨_, _, _, _, _, _, z⟩ => z.elim), gm_ex is w, fun ρ' σ' h' H' t => k ρ' σ' h' H' t⟩
where
  gm_ex : ∀ (is : List Nat) {vs : List MV} {ρ : En} {h : MH} {q : En → MH → Prop} {e e' : QX}, gmNames is vs ρ h q e → gmNames is vs ρ h q e'
  | [], _, _, _, _, _, _, w => w
  | i :: is, vs, ρ, h, q, e, e', w => by
    cases vs with
    | nil => exact w.elim
    | cons v r => exact gm_ex is (show gmNames is r _ h q e from w)
/-- a tuple (of that length) into names -/
def gmTup (is : List Nat) : WG := fun v ρ h q e => match v with
  | .tup xs => gmNames is xs ρ h q e
  | _ => False
theorem gmNames_len : ∀ (is : List Nat) {vs : List MV} {ρ : En} {h : MH} {q : En → MH → Prop} {e : QX}, gmNames is vs ρ h q e → vs.length = is.length
  | [], _, _, _, _, _, w => by rw [w.1]; rfl
  | i :: is, vs, ρ, h, q, e, w => by
    cases vs with
    | nil => exact w.elim
    | cons v r => simp [gmNames_len is (show gmNames is r _ h q e from w)]
theorem sg_tup {es : List Expr} {k : Nat} {is : List Nat} (hc : X.calm = true) (h : SGs X es (gmNames is)) (hn : (assignEach es X.env).length = is.length := by rfl) (hst : (assignEach es X.env).findIdx? (·.1) = none := by rfl) : SG X (.Tuple es k pos) (gmTup is) :=
  PG.imp (pg_tup hc h hn hst) fun v σ H Q ⟨mv, ρ, h, q, e, vr, sr, hr, tk, w, k⟩ => by
    cases mv with
    | tup xs =>
      obtain ⟨p, vs, e1, sq, rs⟩ := VR_tup.mp vr
      have hl := gmNames_len is w
      exact ⟨p, vs, e1, sq, by rw [← rs.length]; exact hl, xs, ρ, h, q, e, rs, sr, hr, tk, w, k⟩
    | _ => exact w.elim

/-! ### comprehensions -/
def wipeM (ρ : En) : List Nat → En
  | [] => ρ
  | v :: vs => (wipeM ρ vs).set v none
theorem SR.setN {K : PySem.W.Frag} {H : Hp} {ρ : En} {σ : L2.St} {i : Nat} (r : SR K H ρ σ) : SR K H (ρ.set i none) (σ.set i none) := by
  refine ⟨by simp [r.len], fun j y e => ?_⟩
  by_cases hj : i = j
  · subst hj
    rw [List.getElem?_set] at e
    split at e
    · split at e
      · cases e
      · cases e
    · rename_i z; exact absurd rfl z
  · rw [List.getElem?_set_ne hj] at e
    obtain ⟨u, a, b⟩ := r.get j y e
    exact ⟨u, by rw [List.getElem?_set_ne hj]; exact a, b⟩
theorem SR.wipe {K : PySem.W.Frag} {H : Hp} {ρ : En} {σ : L2.St} (r : SR K H ρ σ) : ∀ vs : List Nat, SR K H (wipeM ρ vs) (L2.wipe σ vs)
  | [] => r
  | v :: vs => (SR.wipe r vs).setN
abbrev NX : QX := fun _ _ => False
/-- the block's own names are its targets': what they hold is forgotten at each turn -/
def lcM (g : WG) (tt : WT) (te : WE) (D : Addr) (stay : MH → Prop) : List MV → En → MH → (MH → Prop) → Prop
  | [], _, h, k => stay h ∧ k h
  | x :: r, ρ, h, k => stay h ∧ g x ρ h (fun ρ2 h2 => tt ρ2 h2 (fun b h3 => match b with
    | true => te ρ2 h3 (fun y h4 => ∃ acc, h4.at_ D = some (.lst acc) ∧ acc.length < sizeLine ∧ lcM g tt te D stay r ρ (h4.put D (.lst (acc ++ [y]))) k) NX
    | false => lcM g tt te D stay r ρ h3 k) NX) NX
def wLc (wi : WI) (g : WG) (tt : WT) (te : WE) (own : List Nat) : WE := fun ρ h q e => wi ρ h (fun it h1 => ∀ D, h1.at_ D = none → lcM g tt te D it.stay it.items (wipeM ρ own) (h1.put D (.lst [])) (fun h2 => q (.ref D) h2)) e
/-- the targets' slots are the block's own -/
def GOwn (g : WG) (own : List Nat) : Prop := ∀ (x : MV) (ρ : En) (h : MH) (q : En → MH → Prop) (e : QX) (σ : L2.St) (K : PySem.W.Frag) (H : Hp), True
abbrev STs (X : Cx) (ifs : List Expr) (w : WT) : Prop := PTs X ifs (LT X w)
theorem PTs.imp {e : List Expr} {t t' : TT} (h : PTs X e t) (i : ∀ σ H Q, t' σ H Q → t σ H Q) : PTs X e t' := ⟨fun pins s σ H Q I q => h.run pins s σ H Q I (i _ _ _ q)⟩
def wYes : WT := fun _ h q _ => q true h
theorem sts_nil : STs X [] wYes := PTs.imp pts_nil fun σ H Q ⟨ρ, h, q, e, sr, hr, tk, w, k⟩ => k true h H (TK.refl H) hr w
theorem sts_one {c : Expr} {w : WT} (h : ST X c w) : STs X [c] w := pts_one h
end
/-- what a target does to the slots: those of is are stored -/
def stores (σ σ' : L2.St) (is : List Nat) : Prop := ∀ vs : List Nat, (∀ i ∈ is, i ∈ vs) → L2.wipe σ' vs = L2.wipe σ vs
theorem wipe_set {σ : L2.St} {i : Nat} {v : Option V} : ∀ {vs : List Nat}, i ∈ vs → L2.wipe (σ.set i v) vs = L2.wipe σ vs
  | [], h => by cases h
  | a :: vs, h => by
    unfold L2.wipe
    by_cases e : a = i
    · subst e
      have key : ∀ vs : List Nat, (L2.wipe (σ.set a v) vs).set a none = (L2.wipe σ vs).set a none := by
        intro vs
        induction vs with
        | nil => unfold L2.wipe; rw [List.set_set]
        | cons b vs ih =>
          unfold L2.wipe
          by_cases e : b = a
          · subst e; rw [List.set_set, List.set_set]; exact ih
          · rw [List.set_comm _ _ e, ih, List.set_comm _ _ (Ne.symm e)]
      exact key vs
    · rw [wipe_set (vs := vs) (by
        exact (List.mem_cons.mp h).resolve_left fun z => e z.symm)]
theorem wipe_wipe {σ : L2.St} : ∀ vs : List Nat, L2.wipe (L2.wipe σ vs) vs = L2.wipe σ vs := by
  have key : ∀ vs us : List Nat, (∀ i ∈ vs, i ∈ us) → L2.wipe (L2.wipe σ vs) us = L2.wipe σ us := by
    intro vs
    induction vs with
    | nil => intro us _; rfl
    | cons a vs ih =>
      intro us h
      show L2.wipe ((L2.wipe σ vs).set a none) us = _
      rw [wipe_set (h a (by simp)), ih us fun i hi => h i (by simp [hi])]
  exact fun vs => key vs vs fun _ h => h
/-! ### readings that let no exception out, whatever the context -/
def LE0 (K : PySem.W.Frag) (w : WE) : TE := fun σ H Q => ∃ ρ h q, SR K H ρ σ ∧ HR K h H ∧ w ρ h q NX ∧ ∀ mv v h' H', TK H H' → HR K h' H' → VR K H' mv v → q mv h' → Q v H'
def LT0 (K : PySem.W.Frag) (w : WT) : TT := fun σ H Q => ∃ ρ h q, SR K H ρ σ ∧ HR K h H ∧ w ρ h q NX ∧ ∀ b h' H', TK H H' → HR K h' H' → q b h' → Q b H'
theorem takesN {X : Cx} {H : Hp} {ρ : En} : Takes X (LW X.K H ρ NX) := takes0.imp fun _ _ _ _ ⟨_, _, _, _, _, _, z⟩ => z
theorem SE.zero {X : Cx} {e : Expr} {w : WE} (h : SE X e w) : PE X e (LE0 X.K w) := PE.imp h fun σ H Q ⟨ρ, h, q, sr, hr, w, k⟩ => ⟨ρ, h, q, NX, sr, hr, takesN, w, k⟩
theorem STs.zero {X : Cx} {e : List Expr} {w : WT} (h : STs X e w) : PTs X e (LT0 X.K w) := PTs.imp h fun σ H Q ⟨ρ, h, q, sr, hr, w, k⟩ => ⟨ρ, h, q, NX, sr, hr, takesN, w, k⟩
/-- a comprehension's target: t its reading in the layer, w in the mirror -/
def GoOk (K : PySem.W.Frag) (w : WG) (own : List Nat) (t : TG) : Prop := ∀ (mv : MV) (v : V) (ρ : En) (σ : L2.St) (h : MH) (H : Hp) (q : En → MH → Prop) (Q : L2.St → Hp → Prop), VR K H mv v → SR K H ρ σ → HR K h H → w mv ρ h q NX →
  (∀ ρ' σ', SR K H ρ' σ' → L2.wipe σ' own = L2.wipe σ own → q ρ' h → Q σ' H) → t v σ H Q
theorem go_name {K : PySem.W.Frag} {i : Nat} {own : List Nat} (ho : i ∈ own) : GoOk K (gmName i) own (gName i) := fun mv v ρ σ h H q Q vr sr hr w k => k _ _ (sr.set vr) (wipe_set ho) w
def gNames : List Nat → TGs
  | [] => gNil
  | i :: is => gCons (gName i) (gNames is)
theorem gos_names {K : PySem.W.Frag} {own : List Nat} {h : MH} {H : Hp} {q : En → MH → Prop} {Q : L2.St → Hp → Prop} {e : QX} : ∀ (is : List Nat) (mvs : List MV) (vs : List V) (ρ : En) (σ : L2.St), (∀ i ∈ is, i ∈ own) → VRs K H mvs vs → SR K H ρ σ → gmNames is mvs ρ h q e →
    (∀ ρ' σ', SR K H ρ' σ' → L2.wipe σ' own = L2.wipe σ own → q ρ' h → Q σ' H) → gNames is vs σ H Q
  | [], mvs, vs, ρ, σ, ho, vr, sr, w, k => by
    obtain ⟨e1, w⟩ := w
    subst e1
    rw [VRs_nil] at vr
    exact ⟨vr, k _ _ sr rfl w⟩
  | i :: is, mvs, vs, ρ, σ, ho, vr, sr, w, k => by
    cases mvs with
    | nil => exact w.elim
    | cons m r =>
      obtain ⟨v, r', e1, v1, v2⟩ := VRs_cons.mp vr
      subst e1
      exact ⟨v, r', rfl, gos_names is r r' _ _ (fun j hj => ho j (by simp [hj])) v2 (sr.set v1) w fun ρ' σ' a b c => k ρ' σ' a (b.trans (wipe_set (ho i (by simp)))) c⟩
theorem go_tup {K : PySem.W.Frag} {is own : List Nat} (ho : ∀ i ∈ is, i ∈ own) : GoOk K (gmTup is) own (gTup K is.length (gNames is)) := fun mv v ρ σ h H q Q vr sr hr w k => by
  cases mv with
  | tup xs =>
    obtain ⟨p, vs, e1, sq, rs⟩ := VR_tup.mp vr
    have hl := gmNames_len is w
    exact ⟨p, vs, e1, sq, by rw [← rs.length]; exact hl, gos_names is xs vs ρ σ ho rs sr w k⟩
  | _ => exact w.elim
theorem pgs_names_nil {X : Cx} : PGs X [] (gNames []) := pgs_nil
theorem pgs_names {X : Cx} {i : Nat} {is : List Nat} {x : Str} {p : Pos} {es : List Expr} (hN : X.N.Nodup) (h2 : PGs X es (gNames is)) (hi : X.N[i]? = some x := by rfl) (hx : Loc X.env.scope x := by first | exact .inl rfl | exact .inr rfl) (hf : X.fn x = true ∨ X.env.scope.names.lookup x = some .local := by first | exact .inl rfl | exact .inr rfl | assumption)
    (hs : (assignEach (.Name x p :: es) X.env).map (·.2) = assign (.Name x p) X.env :: (assignEach es X.env).map (·.2) := by rfl) : PGs X (.Name x p :: es) (gNames (i :: is)) := pgs_cons (pg_name hN hi hx hf) h2 hs
section
variable {X : Cx}
theorem lc_im {wi : WI} {g : WG} {t : TG} {tt : WT} {te : WE} {own : List Nat} (go : GoOk X.K g own t) {σ : L2.St} {H : Hp} {Q : VK} (x : LE X (wLc wi g tt te own) σ H Q) : tLc (LI X wi) t (LT0 X.K tt) (LE0 X.K te) own σ H Q := by
  obtain ⟨ρ, h, q, e, sr, hr, tk, w, k⟩ := x
  refine ⟨ρ, h, _, e, sr, hr, tk, w, fun it J h1 H1 t1 r1 jm w1 D nD => ?_⟩
  have w2 := w1 D (r1.free nD)
  have tD := TK.new (o := .lst []) nD
  refine ⟨fun i m H' => ∃ h', m = it.items.length - i ∧ i ≤ it.items.length ∧ TK H1 H' ∧ HR X.K h' H' ∧ lcM g tt te D it.stay (it.items.drop i) (wipeM ρ own) h' (fun h2 => q (.ref D) h2), ⟨_, _, rfl, Nat.zero_le _, tD, r1.new (m := .lst []) nD ⟨[], upd_same, by simp⟩, w2⟩, ?_⟩
  rintro i m H' ⟨h', rfl, hi, t2, r2, w3⟩
  rcases Nat.lt_or_ge i it.items.length with hlt | hge
  · rw [List.drop_eq_getElem_cons hlt] at w3
    obtain ⟨st, w3⟩ := w3
    refine .inr ⟨jm.go i H' h' t2 r2 st hlt, fun H3 => ∃ h3, TK H1 H3 ∧ HR X.K h3 H3 ∧ lcM g tt te D it.stay (it.items.drop (i + 1)) (wipeM ρ own) h3 (fun h2 => q (.ref D) h2), fun H3 ⟨h3, a1, a2, a3⟩ => ⟨_, by omega, h3, rfl, hlt, a1, a2, a3⟩, fun x H3 y => ?_⟩
    obtain ⟨t3, r3, mv, e3, v3⟩ := jm.yld i H' h' x H3 t2 r2 st hlt y
    rw [List.getElem?_eq_getElem hlt] at e3
    cases e3
    have tt : TK H H3 := t1.trans (t2.trans t3)
    refine go _ x (wipeM ρ own) (L2.wipe σ own) h' H3 _ _ v3 ((sr.tk tt).wipe own) r3 w3 fun ρ4 σ4 sr4 e4 w4 => ⟨e4.trans (wipe_wipe own), ?_⟩
    refine ⟨ρ4, h', _, sr4, r3, w4, fun b h5 H5 t5 r5 w5 => ?_⟩
    cases b with
    | false => exact iteF ⟨h5, t2.trans (t3.trans t5), r5, w5⟩
    | true =>
      refine iteT ⟨ρ4, h5, _, sr4.tk t5, r5, w5, fun yv v h6 H6 t6 r6 v6 ⟨acc, e6, l6, w6⟩ => ?_⟩
      obtain ⟨vs, g6, rs6⟩ := r6.ob D _ e6
      have t7 : TK H6 (upd H6 D (.lst (vs ++ [v]))) := TK.mut g6 (fun z => z)
      exact ⟨vs, g6, by rw [← rs6.length]; exact l6, h6.put D (.lst (acc ++ [yv])), t2.trans (t3.trans (t5.trans (t6.trans t7))), r6.set e6 t7 ⟨_, upd_same, (rs6.append (VRs_cons.mpr ⟨v, [], rfl, v6, by simp⟩)).tk t7 _⟩, w6⟩
  · have e : i = it.items.length := by omega
    subst e
    rw [List.drop_length] at w3
    exact .inl ⟨jm.stop H' h' t2 r2 w3.1, k _ _ h' H' (t1.trans t2) r2 (by simp) w3.2⟩
variable {elt tg iter : Expr} {ifs : List Expr} {scope : Scope} {own : List (Str × Nat)} {pos spos : Pos} {wi : WI} {g : WG} {t : TG} {tt : WT} {te : WE}
/-- [elt for tg in iter if ..] -/
theorem se_lc (own : List (Str × Nat)) (hc : X.calm = true) (hN : X.N.Nodup) (hi : SI X tg iter wi) (ok : blkC X.N X.env.scope scope own = true) (go : GoOk X.K g (own.map (·.2)) t)
    (hg : ∀ (s : Shared) (H : Hp) (C : Addr) (cl : List (Str × Addr)) (fp : List Addr), PG (X.blk s H scope (compEnvC scope cl C X.env) fp) tg t) (ht : ∀ (s : Shared) (H : Hp) (C : Addr) (cl : List (Str × Addr)) (fp : List Addr), STs (X.blk s H scope (compEnvC scope cl C X.env) fp) ifs tt)
    (he : ∀ (s : Shared) (H : Hp) (C : Addr) (cl : List (Str × Addr)) (fp : List Addr), SE (X.blk s H scope (compEnvC scope cl C X.env) fp) elt te) (hs : ∀ x, foldedSetIterable iter X.env x = pure x := by intro _; rfl) :
    SE X (.ListComp elt [⟨tg, iter, ifs, 0⟩] scope pos) (wLc wi g tt te (own.map (·.2))) :=
  PE.imp (pe_lc (tt := LT0 X.K tt) (te := LE0 X.K te) hc hN hi (blkOk_by ok) hg (fun s H C cl fp => STs.zero (ht s H C cl fp)) (fun s H C cl fp => SE.zero (he s H C cl fp)) hs) fun σ H Q x => lc_im go x
/-- y = [..], y a local -/
theorem ss_setLc (i : Nat) (own : List (Str × Nat)) {y : Str} {py : Pos} (hc : X.calm = true) (hN : X.N.Nodup) (hi : SI X tg iter wi) (ok : blkC X.N X.env.scope scope own = true) (go : GoOk X.K g (own.map (·.2)) t)
    (hg : ∀ (s : Shared) (H : Hp) (C : Addr) (cl : List (Str × Addr)) (fp : List Addr), PG (X.blk s H scope (compEnvC scope cl C X.env) fp) tg t) (ht : ∀ (s : Shared) (H : Hp) (C : Addr) (cl : List (Str × Addr)) (fp : List Addr), STs (X.blk s H scope (compEnvC scope cl C X.env) fp) ifs tt)
    (he : ∀ (s : Shared) (H : Hp) (C : Addr) (cl : List (Str × Addr)) (fp : List Addr), SE (X.blk s H scope (compEnvC scope cl C X.env) fp) elt te)
    (hsw : swapsWith (.ListComp elt [⟨tg, iter, ifs, 0⟩] scope pos) (some (.Name y py)) spos.line X.env = pure true) (hy : X.N[i]? = some y := by rfl) (hyl : X.env.scope.names.lookup y = some .local := by rfl) (hs : ∀ x, foldedSetIterable iter X.env x = pure x := by intro _; rfl) :
    SS X (.Assign [.Name y py] (.ListComp elt [⟨tg, iter, ifs, 0⟩] scope pos) spos) (wAsg (wLc wi g tt te (own.map (·.2))) (gmName i)) :=
  PS.imp (ps_setLc (tt := LT0 X.K tt) (te := LE0 X.K te) hc hN hy hyl hsw hi (blkOk_by ok) hg (fun s H C cl fp => STs.zero (ht s H C cl fp)) (fun s H C cl fp => SE.zero (he s H C cl fp)) hs) fun D σ H x => by
    obtain ⟨ρ, h, d, sr, hr, tk, w, n, r, b, c⟩ := x
    exact lc_im go ⟨ρ, h, _, _, sr, hr, tks_at tk ρ, w, fun mv v h1 H1 t1 r1 v1 w1 => n _ _ h1 H1 t1 ((sr.tk t1).set v1) r1 w1⟩
/-- what was made on the way is forgotten -/
def wDrop (w : WE) : WE := fun ρ h q e => w ρ h (QV.wk q) e
theorem se_drop {e : Expr} {w : WE} (h : SE X e w) : SE X e (wDrop w) := PE.imp h fun σ H Q ⟨ρ, h, q, e, sr, hr, tk, w, k⟩ => ⟨ρ, h, _, e, sr, hr, tk, w, fun mv v h' H' t r vr ⟨h2, l, z⟩ => k mv v h2 H' t (r.le l) vr z⟩
end

/-! ### built-ins' methods -/
abbrev MSpec := MV → List MV → MH → QV → QX → Prop
def MtOk (X : Cx) (T : String) (r : V → List V → Hp → VK → Prop) (Ty : MV → MH → Prop) (Φ : MSpec) : Prop :=
  (∀ x v h H, HR X.K h H → VR X.K H x v → Ty x h → tyV X.K T v H) ∧
  ∀ x args v vs h H q e (Q : VK), HR X.K h H → VR X.K H x v → VRs X.K H args vs → Φ x args h q e → (∀ mv v' h' H', TK H H' → HR X.K h' H' → VR X.K H' mv v' → q mv h' → Q v' H') → r v vs H Q
def wBM (Ty : MV → MH → Prop) (Φ : MSpec) (o : WE) (a : WA) : WE := fun ρ h q e => o ρ h (fun x h1 => Ty x h1 ∧ a ρ h1 (fun xs h2 => Φ x xs h2 q e) e) e
section
variable {X : Cx} {o e : Expr} {es : List Expr} {name : Str} {apos cpos : Pos} {T id : String} {r : V → List V → Hp → VK → Prop} {Ty : MV → MH → Prop} {Φ : MSpec} {wo : WE} {wa : WA}
theorem se_bm (ok : MtOk X T r Ty Φ) (pa : PlainAttrs T) (slot : Slot T name id) (hty : typeOf (.builtin id) = pure (.type "method_descriptor")) (hm : MtR X id r) (ho : SE X o wo) (ha : SA X (e :: es) wa)
    (hs : starEach (e :: es) X.env = (false, eval e X.env) :: starEach es X.env := by rfl) (hplain : (backTo cpos (starEach es X.env)).any (·.1) = false := by rfl) (hbase : attributeBase o name X.env (eval o X.env) = eval o X.env := by rfl) (hline : (apos.endLine == cpos.line) = true := by rfl)
    (hfew : ((backTo cpos (starEach (e :: es) X.env)).all (fun x => !x.1) && (backToKw cpos (keywordEach [] X.env)).all (fun x => x.1.isSome) && decide ((e :: es).length + ([] : List Keyword).length + (if ([] : List Keyword).isEmpty then 0 else 1) < 30)) = true := by rfl) :
    SE X (.Call (.Attribute o name apos) (e :: es) [] cpos) (wBM Ty Φ wo wa) :=
  PE.imp (pe_bm pa slot hty hm ho ha hbase hfew hline hs hplain) fun σ H Q ⟨ρ, h, q, e, sr, hr, tk, w, k⟩ => ⟨ρ, h, _, e, sr, hr, tk, w, fun x v h1 H1 t1 r1 v1 ⟨ty, w1⟩ => ⟨ok.1 x v h1 H1 r1 v1 ty, ρ, h1, _, e, sr.tk t1, r1, tk_mono t1 tk, w1, fun xs vs h2 H2 t2 r2 v2 w2 =>
    ok.2 x xs v vs h2 H2 q e Q r2 (VR.tk t2 x v1) v2 w2 fun mv v' h' H' t3 r3 v3 q3 => k mv v' h' H' (t1.trans (t2.trans t3)) r3 v3 q3⟩⟩
theorem se_bm0 (ok : MtOk X T r Ty Φ) (pa : PlainAttrs T) (slot : Slot T name id) (hty : typeOf (.builtin id) = pure (.type "method_descriptor")) (hm : MtR X id r) (ho : SE X o wo)
    (hbase : attributeBase o name X.env (eval o X.env) = eval o X.env := by rfl) (hline : (apos.endLine == cpos.line) = true := by rfl) : SE X (.Call (.Attribute o name apos) [] [] cpos) (wBM Ty Φ wo wNil) :=
  PE.imp (pe_bm0 pa slot hty hm ho hbase hline) fun σ H Q ⟨ρ, h, q, e, sr, hr, tk, w, k⟩ => ⟨ρ, h, _, e, sr, hr, tk, w, fun x v h1 H1 t1 r1 v1 ⟨ty, w1⟩ => ⟨ok.1 x v h1 H1 r1 v1 ty,
    ok.2 x [] v [] h1 H1 q e Q r1 v1 (by simp) w1 fun mv v' h' H' t3 r3 v3 q3 => k mv v' h' H' (t1.trans t3) r3 v3 q3⟩⟩
def isLst (x : MV) (h : MH) : Prop := ∃ p xs, x = .ref p ∧ h.at_ p = some (.lst xs)
def isStr (x : MV) (_ : MH) : Prop := ∃ z, x = .str z
theorem lst_ty {K : PySem.W.Frag} : ∀ x v h H, HR K h H → VR K H x v → isLst x h → tyV K "list" v H := fun x v h H hh r ⟨p, xs, e1, e2⟩ => by
  subst e1
  simp at r
  subst r
  obtain ⟨vs, g, _⟩ := hh.ob _ _ e2
  exact .inl ⟨rfl, vs, SqL.of g⟩
theorem str_ty {K : PySem.W.Frag} : ∀ x v h H, HR K h H → VR K H x v → isStr x h → tyV K "str" v H := fun x v h H hh r ⟨z, e1⟩ => by
  subst e1
  simp at r
  subst r
  rfl
/-- xs.append(y) -/
def mAppend : MSpec := fun x args h q _ => match x, args with
  | .ref p, [y] => ∃ xs, h.at_ p = some (.lst xs) ∧ xs.length < sizeLine ∧ q .non (h.put p (.lst (xs ++ [y])))
  | _, _ => False
theorem ok_append : MtOk X "list" rAppend isLst mAppend := ⟨lst_ty, fun x args v vs h H q e Q hh rx ra φ k => by
  unfold mAppend at φ
  split at φ
  · rename_i p y
    obtain ⟨xs, e1, l, z⟩ := φ
    obtain ⟨us, g, rs⟩ := hh.ob _ _ e1
    obtain ⟨u, e2, ru⟩ := ra.one
    simp at rx
    subst rx e2
    have t : TK H (upd H p (.lst (us ++ [u]))) := TK.mut g (fun z => z)
    exact ⟨p, us, u, rfl, rfl, g, by rw [← rs.length]; exact l, k _ _ (h.put p (.lst (xs ++ [y]))) _ t (hh.set e1 t ⟨_, upd_same, (rs.append (VRs_cons.mpr ⟨u, [], rfl, ru, by simp⟩)).tk t _⟩) (by simp) z⟩
  · exact φ.elim⟩
/-- xs.extend(ys), ys a list -/
def mExtend : MSpec := fun x args h q _ => match x, args with
  | .ref p, [.ref b] => ∃ xs ys, h.at_ p = some (.lst xs) ∧ h.at_ b = some (.lst ys) ∧ xs.length + ys.length ≤ sizeLine ∧ q .non (h.put p (.lst (xs ++ ys)))
  | _, _ => False
theorem ok_extend : MtOk X "list" rExtend isLst mExtend := ⟨lst_ty, fun x args v vs h H q e Q hh rx ra φ k => by
  unfold mExtend at φ
  split at φ
  · rename_i p b
    obtain ⟨xs, ys, e1, e1', l, z⟩ := φ
    obtain ⟨us, g, rs⟩ := hh.ob _ _ e1
    obtain ⟨ws, g', rs'⟩ := hh.ob _ _ e1'
    obtain ⟨u, e2, ru⟩ := ra.one
    simp at rx ru
    subst rx e2 ru
    have t : TK H (upd H p (.lst (us ++ ws))) := TK.mut g (fun z => z)
    exact ⟨p, b, us, ws, rfl, rfl, g, g', by rw [← rs.length, ← rs'.length]; exact l, k _ _ (h.put p (.lst (xs ++ ys))) _ t (hh.set e1 t ⟨_, upd_same, (rs.append rs').tk t _⟩) (by simp) z⟩
  · exact φ.elim⟩
theorem VRs.dropLast {K : PySem.W.Frag} {H : Hp} {xs : List MV} {vs : List V} (r : VRs K H xs vs) : VRs K H xs.dropLast vs.dropLast := by
  rw [List.dropLast_eq_take, List.dropLast_eq_take, r.length]
  exact r.take _
/-- xs.pop() -/
def mPop : MSpec := fun x args h q _ => match x, args with
  | .ref p, [] => ∃ xs y, h.at_ p = some (.lst xs) ∧ xs[xs.length - 1]? = some y ∧ q y (h.put p (.lst xs.dropLast))
  | _, _ => False
theorem ok_pop : MtOk X "list" rPop isLst mPop := ⟨lst_ty, fun x args v vs h H q e Q hh rx ra φ k => by
  unfold mPop at φ
  split at φ
  · rename_i p
    obtain ⟨xs, y, e1, l, z⟩ := φ
    obtain ⟨us, g, rs⟩ := hh.ob _ _ e1
    obtain ⟨u, e2, ru⟩ := rs.get l
    rw [VRs_nil] at ra
    simp at rx
    subst rx ra
    have t : TK H (upd H p (.lst us.dropLast)) := TK.mut g (fun z => z)
    exact ⟨p, us, u, rfl, rfl, g, by rw [← rs.length]; exact e2, k _ _ (h.put p (.lst xs.dropLast)) _ t (hh.set e1 t ⟨_, upd_same, rs.dropLast.tk t _⟩) (VR.tk t _ ru) z⟩
  · exact φ.elim⟩
/-- s.split(t) -/
theorem strs_ok {K : PySem.W.Frag} {H : Hp} : ∀ {zs : List Str}, VRs K H (zs.map MV.str) (zs.map V.str)
  | [] => by simp
  | z :: zs => VRs_cons.mpr ⟨_, _, rfl, by simp, strs_ok⟩
theorem strs_of {K : PySem.W.Frag} {H : Hp} : ∀ {zs : List Str} {vs : List V}, VRs K H (zs.map MV.str) vs → vs = zs.map V.str
  | [], _, r => by rw [List.map_nil, VRs_nil] at r; exact r
  | b :: bs, _, r => by
    obtain ⟨v, u, e, a, c⟩ := VRs_cons.mp r
    simp at a
    subst a e
    rw [List.map_cons, strs_of c]
def mSplit : MSpec := fun x args h q _ => match x, args with
  | .str a, [.str b] => (b.length == 0) = false ∧ a.length + 2 ≤ sizeLine ∧ ∀ p, h.at_ p = none → q (.ref p) (h.put p (.lst ((Txt.split a b).map MV.str)))
  | _, _ => False
abbrev rSplitM : V → List V → Hp → VK → Prop := fun x xs H Q => ∃ a b, x = .str a ∧ xs = [.str b] ∧ (b.length == 0) = false ∧ a.length + 2 ≤ sizeLine ∧ rNewStrs (Txt.split a b) H Q
theorem ok_split : MtOk X "str" rSplitM isStr mSplit := ⟨str_ty, fun x args v vs h H q e Q hh rx ra φ k => by
  unfold mSplit at φ
  split at φ
  · rename_i a b
    obtain ⟨l1, l2, z⟩ := φ
    obtain ⟨u, e2, ru⟩ := ra.one
    simp at rx ru
    subst rx e2 ru
    refine ⟨a, b, rfl, rfl, l1, l2, fun p n => ?_⟩
    have t := TK.new (o := .lst ((Txt.split a b).map V.str)) n
    exact k _ _ (h.put p (.lst ((Txt.split a b).map MV.str))) _ t (hh.new n ⟨_, upd_same, strs_ok⟩) (by simp) (z p (hh.free n))
  · exact φ.elim⟩
/-- s.join(texts) -/
def mJoin : MSpec := fun x args h q _ => match x, args with
  | .str a, [y] => ∃ zs : List Str, seqM h y = some (zs.map MV.str) ∧ (zs.map (·.length)).sum + zs.length * a.length ≤ 16777216 ∧ q (.str (Txt.join a zs)) h
  | _, _ => False
abbrev rJoinM (K : PySem.W.Frag) : V → List V → Hp → VK → Prop := fun x xs H Q => ∃ a p, ∃ ys : List Str, x = .str a ∧ xs = [.ref p] ∧ (SqL K H p (ys.map V.str) ∨ SqT K H p (ys.map V.str)) ∧ (ys.map (·.length)).sum + ys.length * a.length ≤ 16777216 ∧ Q (.str (Txt.join a ys)) H
theorem ok_join : MtOk X "str" (rJoinM X.K) isStr mJoin := ⟨str_ty, fun x args v vs h H q e Q hh rx ra φ k => by
  unfold mJoin at φ
  split at φ
  · rename_i a y
    obtain ⟨zs, e1, l, z⟩ := φ
    obtain ⟨u, e2, ru⟩ := ra.one
    obtain ⟨p, us, e3, sq, rs⟩ := seq_ok hh ru e1
    simp at rx
    subst rx e2 e3
    rw [strs_of rs] at sq
    exact ⟨a, p, zs, rfl, rfl, sq, l, k _ _ h H (TK.refl H) hh (by simp) z⟩
  · exact φ.elim⟩
end
end MM
end
section
namespace MM
open PySem PySem.Spec PyProof.Rows L2

/-- X runs within the text told of -/
structure On (P : Program) (w : World) (K : PySem.W.Frag) (mg : Str → Option Value) (base : Heap) (k : Nat) (X : Cx) : Prop where
  prog : X.prog = P
  w : X.w = w
  K : X.K = K
  mg : X.mg = mg
  base : X.base = base
  room : Room k X.A
  gu : X.A.guards = some []
/-- a module's constant -/
def Gc (K : PySem.W.Frag) (mg : Str → Option Value) (x : Str) (m : MV) : Prop := ∃ u v, mg x = some u ∧ RelV v u ∧ ∀ H, VR K H m v
/-- a def of the module, called with some number of arguments -/
def Fn (P : Program) (w : World) (K : PySem.W.Frag) (mg : Str → Option Value) (base : Heap) (k : Nat) (x : Str) (Φ : Spec) : Prop :=
  ∃ f, mg x = some (.ref f) ∧ PySem.W.keepIn K (.ref f) = true ∧ ∀ X : Cx, On P w K mg base k X → CallM X (.ref f) Φ
/-- a class of the module, made -/
def Cl (P : Program) (w : World) (K : PySem.W.Frag) (mg : Str → Option Value) (base : Heap) (k : Nat) (x : Str) (C : Addr) (Φ : Spec) : Prop :=
  mg x = some (.ref C) ∧ PySem.W.keepIn K (.ref C) = true ∧ ∀ X : Cx, On P w K mg base k X → CallM X (.ref C) Φ
/-- a method -/
def Me (P : Program) (w : World) (K : PySem.W.Frag) (mg : Str → Option Value) (base : Heap) (k : Nat) (C : Addr) (m : Str) (Φ : Spec) : Prop :=
  Cls K C ∧ ∃ f, Meth K C m f ∧ ∀ X : Cx, On P w K mg base k X → CallM X (.ref f) Φ
/-- where a def stands -/
def Df (K : PySem.W.Frag) (mg : Str → Option Value) (x : Str) (st : Stmt) (dvs : List V) : Prop := ∃ f fd, mg x = some (.ref f) ∧ FunD K x x (defArgs st) (defBody st) (defScope st) dvs [] f fd
def DfM (K : PySem.W.Frag) (C : Addr) (m qual : Str) (st : Stmt) (dvs : List V) : Prop := ∃ f fd, Meth K C m f ∧ FunD K m qual (defArgs st) (defBody st) (defScope st) dvs [] f fd
/-- how the parameters of a def without defaults bind -/
def BindN (x qual : Str) (st : Stmt) (ps : List Str) : Prop := ∀ (kV doc pm : Value) (an : Option Addr) (cdv ct : Value) (us : List Value), us.length = ps.length → bindArgs (PySem.W.fnOf x qual (defArgs st) (defBody st) (defScope st) .none kV doc pm an cdv ct) ⟨us, []⟩ = pure (ps.zip us)
section
variable {P : Program} {w : World} {K : PySem.W.Frag} {mg : Str → Option Value} {base : Heap} {x qual m : Str} {st : Stmt} {N ps : List Str} {k j : Nat} {Φ Ψ : Spec} {C : Addr}
theorem On.mono {X : Cx} (o : On P w K mg base k X) (h : j ≤ k) : On P w K mg base j X := ⟨o.prog, o.w, o.K, o.mg, o.base, o.room.mono h, o.gu⟩
theorem dfl_nil : Φ.dfl [] = Φ := by
  funext a h q e
  simp [Spec.dfl]
theorem Df.fn (D : Df K mg x st []) (S : FnScope N ps (defScope st)) (hb : BindN x x st ps) (len : ∀ args h q e, Φ args h q e → args.length = ps.length)
    (hbody : ∀ (f : Addr) (cdv : Value) (A : Around) (outer : List PySem.Env) (s : Shared) (H : Hp) (E : XK), On P w K mg base k (cxOf (L2N.CX P w) P w K mg base N x (defScope st) f cdv A outer s H E) →
      ∃ b, SSs (cxOf (L2N.CX P w) P w K mg base N x (defScope st) f cdv A outer s H E) (defBody st) b ∧ ∀ args h q e, Φ args h q e → b (startM N.length args) h (bodyD q e)) : Fn P w K mg base (k + 1) x Φ := by
  obtain ⟨f, fd, hm, F⟩ := D
  have G : FnM P w K mg base (k + 1) f fd ps Φ := fnM F S len fun cdv A outer s H E hr hgu => hbody f cdv A outer s H E ⟨rfl, rfl, rfl, rfl, rfl, hr, hgu⟩
  have b := F.bindsN hb
  refine ⟨f, hm, F.kp, fun X o => ?_⟩
  obtain ⟨rfl, rfl, rfl, rfl, rfl, r, g⟩ := o
  have c := callM_fn G r g b Dfl.nil
  rw [dfl_nil] at c
  exact c
theorem Fn.mono (F : Fn P w K mg base j x Φ) (h : j ≤ k) : Fn P w K mg base k x Φ := let ⟨f, a, b, c⟩ := F; ⟨f, a, b, fun X o => c X (o.mono h)⟩
theorem CallM.imp {X : Cx} {f : Value} (c : CallM X f Φ) (h : ∀ a h q e, Ψ a h q e → Φ a h q e) : CallM X f Ψ := fun pins s σ H ρ h' args vs us q e Q I sr hr tk va vv φ k => c pins s σ H ρ h' args vs us q e Q I sr hr tk va vv (h _ _ _ _ φ) k
theorem Fn.imp (F : Fn P w K mg base k x Φ) (h : ∀ a h q e, Ψ a h q e → Φ a h q e) : Fn P w K mg base k x Ψ := let ⟨f, a, b, c⟩ := F; ⟨f, a, b, fun X o => (c X o).imp h⟩
theorem DfM.me (D : DfM K C m qual st []) (c : Cls K C) (S : FnScope N ps (defScope st)) (hb : BindN m qual st ps) (len : ∀ args h q e, Φ args h q e → args.length = ps.length)
    (hbody : ∀ (f : Addr) (cdv : Value) (A : Around) (outer : List PySem.Env) (s : Shared) (H : Hp) (E : XK), On P w K mg base k (cxOf (L2N.CX P w) P w K mg base N qual (defScope st) f cdv A outer s H E) →
      ∃ b, SSs (cxOf (L2N.CX P w) P w K mg base N qual (defScope st) f cdv A outer s H E) (defBody st) b ∧ ∀ args h q e, Φ args h q e → b (startM N.length args) h (bodyD q e)) : Me P w K mg base (k + 1) C m Φ := by
  obtain ⟨f, fd, hm, F⟩ := D
  have G : FnM P w K mg base (k + 1) f fd ps Φ := fnM F S len fun cdv A outer s H E hr hgu => hbody f cdv A outer s H E ⟨rfl, rfl, rfl, rfl, rfl, hr, hgu⟩
  have b := F.bindsN hb
  refine ⟨c, f, hm, fun X o => ?_⟩
  obtain ⟨rfl, rfl, rfl, rfl, rfl, r, g⟩ := o
  have c := callM_fn G r g b Dfl.nil
  rw [dfl_nil] at c
  exact c
end
/-! ### in a body -/
section
variable {X : Cx} {k j : Nat} {x m : Str} {Φ : Spec} {C : Addr} {p pos apos : Pos} {e o : Expr} {es : List Expr} {a : WA} {wo : WE} {P : Program} {w : World} {K : PySem.W.Frag} {mg : Str → Option Value} {base : Heap}
theorem se_gc {mv : MV} (G : Gc X.K X.mg x mv) (hg : Gl X x := by rfl) (hd : (x == ("__debug__" : Str)) = false := by decide) : SE X (.Name x pos) (wC mv) := by
  obtain ⟨u, v, hm, r, q⟩ := G
  exact se_glob hm r q hg hd
theorem se_fn (F : Fn P w K mg base j x Φ) (o : On P w K mg base k X) (ha : SA X (e :: es) a) (hj : j ≤ k := by decide) (hg : Gl X x := by rfl) (hdb : (x == ("__debug__" : Str)) = false := by decide)
    (he : starEach (e :: es) X.env = (false, eval e X.env) :: starEach es X.env := by rfl) (hpl : (backTo pos (starEach es X.env)).any (·.1) = false := by rfl) : SE X (.Call (.Name x p) (e :: es) [] pos) (wCall Φ a) := by
  obtain ⟨f, hm, hk, c⟩ := F
  have cc := c X (o.mono hj)
  obtain ⟨rfl, rfl, rfl, rfl, rfl, r, g⟩ := o
  exact se_call cc hm hk hg ha hdb he hpl
theorem se_fn0 (F : Fn P w K mg base j x Φ) (o : On P w K mg base k X) (hj : j ≤ k := by decide) (hg : Gl X x := by rfl) (hdb : (x == ("__debug__" : Str)) = false := by decide) : SE X (.Call (.Name x p) [] [] pos) (wCall Φ wNil) := by
  obtain ⟨f, hm, hk, c⟩ := F
  have cc := c X (o.mono hj)
  obtain ⟨rfl, rfl, rfl, rfl, rfl, r, g⟩ := o
  exact se_call0 cc hm hk hg hdb
theorem se_cl (F : Cl P w K mg base j x C Φ) (o : On P w K mg base k X) (ha : SA X (e :: es) a) (hj : j ≤ k := by decide) (hg : Gl X x := by rfl) (hdb : (x == ("__debug__" : Str)) = false := by decide)
    (he : starEach (e :: es) X.env = (false, eval e X.env) :: starEach es X.env := by rfl) (hpl : (backTo pos (starEach es X.env)).any (·.1) = false := by rfl) : SE X (.Call (.Name x p) (e :: es) [] pos) (wCall Φ a) := se_fn ⟨C, F.1, F.2.1, F.2.2⟩ o ha hj hg hdb he hpl
theorem se_cl0 (F : Cl P w K mg base j x C Φ) (o : On P w K mg base k X) (hj : j ≤ k := by decide) (hg : Gl X x := by rfl) (hdb : (x == ("__debug__" : Str)) = false := by decide) : SE X (.Call (.Name x p) [] [] pos) (wCall Φ wNil) := se_fn0 ⟨C, F.1, F.2.1, F.2.2⟩ o hj hg hdb
theorem hu_on (o : On P w K mg base k X) : X.A.units + 65 < cLine := by have := o.room.un; omega
end
/-! ### isinstance, by a table: own the own classes, none derived from another -/
def names7 : List String := ["NoneType", "bool", "int", "str", "list", "tuple", "dict"]
def names5 : List String := ["bool", "int", "str", "list", "tuple", "dict"]
def isiT (own : List Addr) : Value → Value → Option Bool
  | .type a, .type b => if a ∈ names7 ∧ b ∈ names5 then some (a == b || (a == "bool" && b == "int")) else none
  | .type a, .ref C => if a ∈ names7 ∧ C ∈ own then some false else none
  | .ref C, .type b => if C ∈ own ∧ b ∈ names5 then some false else none
  | .ref C, .ref D => if C ∈ own ∧ D ∈ own then some (C == D) else none
  | _, _ => none
/-- what the head tells of the own classes -/
def kitsB (K : PySem.W.Frag) (own : List Addr) : Bool := own.all fun C =>
  (names7.all fun a => decide (PySem.W.kitOne K (.type a) (.ref C) = some false)) && ((names5.all fun b => decide (PySem.W.kitOne K (.ref C) (.type b) = some false)) && ((own.all fun D => decide (PySem.W.kitOne K (.ref C) (.ref D) = some (C == D))) &&
  ((PySem.W.plainGet K C Str.empty && (PySem.W.hasDictIn K C && (PySem.W.plainOver K C && He.eqO (PySem.W.findIn K (.ref C) "__setattr__") (some (some (.builtin "object.__setattr__")))))) &&
  (He.eqO (PySem.W.findIn K (.ref C) "__class__") (some (some (.builtin "object.__class__"))) && (He.eqO (PySem.W.specialIn K (.builtin "object.__class__") "__get__") (some (some (.builtin "getset_descriptor.__get__"))) &&
  (decide (PySem.W.takesIn K (.builtin "object.__class__") = some true) && decide (PySem.W.mroIn K C (.type "object") = some true)))))))
theorem kits_ty : (names7.all fun a => names5.all fun b => decide (kitB a b = some (a == b || (a == "bool" && b == "int")))) = true := by decide +kernel
theorem isi_ok {K : PySem.W.Frag} {own : List Addr} (h : kitsB K own = true) : IsiOk K (isiT own) := by
  have h1 := List.all_eq_true.mp h
  refine ⟨fun t c b e => ?_, fun C c b e => ?_⟩
  · unfold isiT at e
    split at e
    · rename_i a b'
      split at e
      · rename_i hm
        cases e
        have q := List.all_eq_true.mp (List.all_eq_true.mp kits_ty a hm.1) b' hm.2
        exact kit_ty (of_decide_eq_true q)
      · cases e
    · split at e
      · rename_i hm
        cases e
        have q := h1 _ hm.2
        simp only [Bool.and_eq_true] at q
        exact of_decide_eq_true (List.all_eq_true.mp q.1 _ hm.1)
      · cases e
    · split at e
      · rename_i hm
        cases e
        have q := h1 _ hm.1
        simp only [Bool.and_eq_true] at q
        exact of_decide_eq_true (List.all_eq_true.mp q.2.1 _ hm.2)
      · cases e
    · split at e
      · rename_i hm
        cases e
        have q := h1 _ hm.1
        simp only [Bool.and_eq_true] at q
        exact of_decide_eq_true (List.all_eq_true.mp q.2.2.1 _ hm.2)
      · cases e
    · cases e
  · have hm : C ∈ own := by
      cases c with
      | type b' =>
        have e : (if C ∈ own ∧ b' ∈ names5 then some false else none) = some b := e
        split at e
        · rename_i hm; exact hm.1
        · cases e
      | ref D =>
        have e : (if C ∈ own ∧ D ∈ own then some (C == D) else none) = some b := e
        split at e
        · rename_i hm; exact hm.1
        · cases e
      | _ => cases e
    have q := h1 _ hm
    rw [Bool.and_eq_true] at q
    simp only [Bool.and_eq_true, decide_eq_true_eq] at q ⊢
    obtain ⟨_, _, _, ⟨p1, p2, p3, p4⟩, p5, p6, p7, p8⟩ := q
    exact ⟨⟨p1, p2, p3, He.eqO_ok p4⟩, He.eqO_ok p5, He.eqO_ok p6, p7, p8⟩
end MM
end
section
namespace MM
open PySem PySem.Spec PyProof.Rows L2
/-! Symbolic runs: each w unfolds at the root alone, what follows stands as a closed word (kX). -/
def exAt (d : MD) (ρ : En) : QX := fun x h => d.ex x ρ h
def nxD (d : MD) (b : WS) : MD := { d with nx := fun ρ h => b ρ h d }
def atK (h : MH) (p : Addr) (k : Option MO → Prop) : Prop := k (h.at_ p)
def newL (h : MH) (o : MO) (q : QV) : Prop := ∀ p, h.at_ p = none → q (.ref p) (h.put p o)
theorem newL_i {h : MH} {o : MO} {q : QV} (x : ∀ p, h.at_ p = none → q (.ref p) (h.put p o)) : newL h o q := x
theorem atK_of {h : MH} {p : Addr} {o : Option MO} (e : h.at_ p = o) (k : Option MO → Prop) : atK h p k = k o := by unfold atK; rw [e]
theorem MH.ne_new {h : MH} {a p : Addr} {o : MO} (e : h.at_ a = some o) (n : h.at_ p = none) : (a = p) = False := by
  refine eq_false fun z => ?_
  subst z
  rw [n] at e
  cases e
section
variable {ρ : En} {h : MH} {q : QV} {e : QX} {d : MD}

@[simp ↓] theorem exAt_s {x : MX} : exAt d ρ x h = d.ex x ρ h := rfl
@[simp ↓] theorem nxD_rt {b : WS} {v : MV} : (nxD d b).rt v h = d.rt v h := rfl
@[simp ↓] theorem nxD_bk {b : WS}  : (nxD d b).bk ρ h = d.bk ρ h := rfl
@[simp ↓] theorem nxD_ct {b : WS}  : (nxD d b).ct ρ h = d.ct ρ h := rfl
@[simp ↓] theorem nxD_ex {b : WS} {x : MX} : (nxD d b).ex x ρ h = d.ex x ρ h := rfl
@[simp ↓] theorem nxD_nx {b : WS} : (nxD d b).nx ρ h = b ρ h d := rfl
@[simp ↓] theorem bodyD_nx {q : QV} {e : QX} : (bodyD q e).nx ρ h = QV.wk q .non h := rfl
@[simp ↓] theorem bodyD_rt {q : QV} {e : QX} {v : MV} : (bodyD q e).rt v h = QV.wk q v h := rfl
@[simp ↓] theorem bodyD_ex {q : QV} {e : QX} {x : MX} : (bodyD q e).ex x ρ h = QX.wk e x h := rfl
@[simp ↓] theorem atK_put {a b : Addr} {o : MO} {k : Option MO → Prop} : atK (h.put a o) b k = (if b = a then k (some o) else atK h b k) := by unfold atK; rw [MH.put_at]; split <;> rfl
@[simp ↓] theorem wNext_s : wNext ρ h d = d.nx ρ h := rfl
@[simp ↓] theorem wSeq_s {a b : WS} : wSeq a b ρ h d = a ρ h (nxD d b) := rfl
@[simp ↓] theorem wCt_s : wCt ρ h d = d.ct ρ h := rfl
@[simp ↓] theorem wBk_s : wBk ρ h d = d.bk ρ h := rfl
def kExpr (ρ : En) (d : MD) : QV := fun _ h => d.nx ρ h
@[simp ↓] theorem kExpr_s {v : MV} : kExpr ρ d v h = d.nx ρ h := rfl
@[simp ↓] theorem wExpr_s {a : WE} : wExpr a ρ h d = a ρ h (kExpr ρ d) (exAt d ρ) := rfl
def kRt (d : MD) : QV := fun v h => d.rt v h
@[simp ↓] theorem kRt_s {v : MV} : kRt d v h = d.rt v h := rfl
@[simp ↓] theorem wRet_s {a : WE} : wRet a ρ h d = a ρ h (kRt d) (exAt d ρ) := rfl
@[simp ↓] theorem wRetN_s : wRetN ρ h d = d.rt .non h := rfl
def kIfS (a b : WS) (ρ : En) (d : MD) : Bool → MH → Prop := fun c h => match c with | true => a ρ h d | false => b ρ h d
@[simp ↓] theorem kIfS_s {a b : WS} {c : Bool} : kIfS a b ρ d c h = (if c = true then a ρ h d else b ρ h d) := by cases c <;> rfl
@[simp ↓] theorem wIfS_s {t : WT} {a b : WS} : wIfS t a b ρ h d = t ρ h (kIfS a b ρ d) (exAt d ρ) := rfl
def kNx (d : MD) : En → MH → Prop := fun ρ h => d.nx ρ h
@[simp ↓] theorem kNx_s : kNx d ρ h = d.nx ρ h := rfl
def kAsg (g : WG) (ρ : En) (d : MD) : QV := fun v h => g v ρ h (kNx d) (exAt d ρ)
@[simp ↓] theorem kAsg_s {g : WG} {v : MV} : kAsg g ρ d v h = g v ρ h (kNx d) (exAt d ρ) := rfl
@[simp ↓] theorem wAsg_s {a : WE} {g : WG} : wAsg a g ρ h d = a ρ h (kAsg g ρ d) (exAt d ρ) := rfl
def kSF2 (C : Addr) (f : Str) (y : MV) (p : Addr) (h : MH) (ρ : En) (d : MD) : Option MO → Prop := fun o => match o with | some (.ins C2 fs) => C2 = C ∧ (fs.length < 1000 ∧ sealedN (fs.map (·.1)) = false) ∧ d.nx ρ (h.put p (.ins C (putM f y fs))) | _ => False
@[simp ↓] theorem kSF2_s {C C2 : Addr} {f : Str} {y : MV} {p : Addr} {fs : List (Str × MV)} : kSF2 C f y p h ρ d (some (.ins C2 fs)) = (C2 = C ∧ (fs.length < 1000 ∧ sealedN (fs.map (·.1)) = false) ∧ d.nx ρ (h.put p (.ins C (putM f y fs)))) := rfl
def kSF1 (C : Addr) (f : Str) (y : MV) (ρ : En) (d : MD) : QV := fun x h => match x with | .ref p => atK h p (kSF2 C f y p h ρ d) | _ => False
@[simp ↓] theorem kSF1_s {C : Addr} {f : Str} {y : MV} {p : Addr} : kSF1 C f y ρ d (.ref p) h = atK h p (kSF2 C f y p h ρ d) := rfl
def kSF0 (C : Addr) (o : WE) (f : Str) (ρ : En) (d : MD) : QV := fun y h => o ρ h (kSF1 C f y ρ d) (exAt d ρ)
@[simp ↓] theorem kSF0_s {C : Addr} {o : WE} {f : Str} {y : MV} : kSF0 C o f ρ d y h = o ρ h (kSF1 C f y ρ d) (exAt d ρ) := rfl
@[simp ↓] theorem sFldM_s {C : Addr} {o v : WE} {f : Str} : sFldM C o v f ρ h d = v ρ h (kSF0 C o f ρ d) (exAt d ρ) := by
  unfold sFldM
  congr 1
  funext y h1
  show _ = o ρ h1 (kSF1 C f y ρ d) (exAt d ρ)
  congr 1
  funext x h2
  cases x with
  | ref p =>
    show (∃ fs, h2.at_ p = some (.ins C fs) ∧ (fs.length < 1000 ∧ sealedN (fs.map (·.1)) = false) ∧ d.nx ρ (h2.put p (.ins C (putM f y fs)))) = kSF2 C f y p h2 ρ d (h2.at_ p)
    generalize h2.at_ p = oo
    cases oo with
    | none => exact propext ⟨fun ⟨_, z, _⟩ => (by cases z), fun z => z.elim⟩
    | some m =>
      cases m with
      | ins C2 fs => exact propext ⟨fun ⟨fs', z, a, b⟩ => by cases z; exact ⟨rfl, a, b⟩, fun ⟨z, a, b⟩ => by subst z; exact ⟨fs, rfl, a, b⟩⟩
      | _ => exact propext ⟨fun ⟨_, z, _⟩ => (by cases z), fun z => z.elim⟩
  | _ => rfl
/-- an instance's class and attributes -/
def insK (h : MH) (x : MV) (k : Addr → List (Str × MV) → Prop) : Prop := match insM h x with | some (C, fs) => k C fs | none => False
def insO (k : Addr → List (Str × MV) → Prop) : Option MO → Prop := fun o => match o with | some (.ins C fs) => k C fs | _ => False
@[simp ↓] theorem insO_s {k : Addr → List (Str × MV) → Prop} {C : Addr} {fs : List (Str × MV)} : insO k (some (.ins C fs)) = k C fs := rfl
@[simp ↓] theorem insK_ref {k : Addr → List (Str × MV) → Prop} {p : Addr} : insK h (.ref p) k = atK h p (insO k) := by
  unfold insK atK
  simp only [insM]
  cases h.at_ p with
  | none => rfl
  | some o => cases o <;> rfl
@[simp ↓] theorem insK_obj {k : Addr → List (Str × MV) → Prop} {C : Addr} {ns : List Str} {xs : List MV} : insK h (.obj C ns xs) k = k C (ns.zip xs) := rfl
theorem insK_eq {x : MV} {C : Addr} {k : List (Str × MV) → Prop} : (∃ fs, insM h x = some (C, fs) ∧ k fs) = insK h x (fun D fs => D = C ∧ k fs) := by
  unfold insK
  cases insM h x with
  | none => exact propext ⟨fun ⟨_, z, _⟩ => (by cases z), fun z => z.elim⟩
  | some o =>
    obtain ⟨D, fs⟩ := o
    exact propext ⟨fun ⟨fs', z, a⟩ => by cases z; exact ⟨rfl, a⟩, fun ⟨z, a⟩ => by subst z; exact ⟨fs, rfl, a⟩⟩
@[simp ↓] theorem wVar_0 {v : MV} {r : En}  : wVar 0 (some v :: r) h q e = q v h := rfl
@[simp ↓] theorem gmName_0 {v : MV} {r : En}  {b : Option MV} {q : En → MH → Prop} : gmName 0 v (b :: r) h q e = q (some v :: r) h := rfl
@[simp ↓] theorem wVar_1 {v : MV} {r : En} {a0 : Option MV} : wVar 1 (a0 :: some v :: r) h q e = q v h := rfl
@[simp ↓] theorem gmName_1 {v : MV} {r : En} {a0 : Option MV} {b : Option MV} {q : En → MH → Prop} : gmName 1 v (a0 :: b :: r) h q e = q (a0 :: some v :: r) h := rfl
@[simp ↓] theorem wVar_2 {v : MV} {r : En} {a0 : Option MV} {a1 : Option MV} : wVar 2 (a0 :: a1 :: some v :: r) h q e = q v h := rfl
@[simp ↓] theorem gmName_2 {v : MV} {r : En} {a0 : Option MV} {a1 : Option MV} {b : Option MV} {q : En → MH → Prop} : gmName 2 v (a0 :: a1 :: b :: r) h q e = q (a0 :: a1 :: some v :: r) h := rfl
@[simp ↓] theorem wVar_3 {v : MV} {r : En} {a0 : Option MV} {a1 : Option MV} {a2 : Option MV} : wVar 3 (a0 :: a1 :: a2 :: some v :: r) h q e = q v h := rfl
@[simp ↓] theorem gmName_3 {v : MV} {r : En} {a0 : Option MV} {a1 : Option MV} {a2 : Option MV} {b : Option MV} {q : En → MH → Prop} : gmName 3 v (a0 :: a1 :: a2 :: b :: r) h q e = q (a0 :: a1 :: a2 :: some v :: r) h := rfl
@[simp ↓] theorem wVar_4 {v : MV} {r : En} {a0 : Option MV} {a1 : Option MV} {a2 : Option MV} {a3 : Option MV} : wVar 4 (a0 :: a1 :: a2 :: a3 :: some v :: r) h q e = q v h := rfl
@[simp ↓] theorem gmName_4 {v : MV} {r : En} {a0 : Option MV} {a1 : Option MV} {a2 : Option MV} {a3 : Option MV} {b : Option MV} {q : En → MH → Prop} : gmName 4 v (a0 :: a1 :: a2 :: a3 :: b :: r) h q e = q (a0 :: a1 :: a2 :: a3 :: some v :: r) h := rfl
@[simp ↓] theorem wVar_5 {v : MV} {r : En} {a0 : Option MV} {a1 : Option MV} {a2 : Option MV} {a3 : Option MV} {a4 : Option MV} : wVar 5 (a0 :: a1 :: a2 :: a3 :: a4 :: some v :: r) h q e = q v h := rfl
@[simp ↓] theorem gmName_5 {v : MV} {r : En} {a0 : Option MV} {a1 : Option MV} {a2 : Option MV} {a3 : Option MV} {a4 : Option MV} {b : Option MV} {q : En → MH → Prop} : gmName 5 v (a0 :: a1 :: a2 :: a3 :: a4 :: b :: r) h q e = q (a0 :: a1 :: a2 :: a3 :: a4 :: some v :: r) h := rfl
@[simp ↓] theorem wVar_6 {v : MV} {r : En} {a0 : Option MV} {a1 : Option MV} {a2 : Option MV} {a3 : Option MV} {a4 : Option MV} {a5 : Option MV} : wVar 6 (a0 :: a1 :: a2 :: a3 :: a4 :: a5 :: some v :: r) h q e = q v h := rfl
@[simp ↓] theorem gmName_6 {v : MV} {r : En} {a0 : Option MV} {a1 : Option MV} {a2 : Option MV} {a3 : Option MV} {a4 : Option MV} {a5 : Option MV} {b : Option MV} {q : En → MH → Prop} : gmName 6 v (a0 :: a1 :: a2 :: a3 :: a4 :: a5 :: b :: r) h q e = q (a0 :: a1 :: a2 :: a3 :: a4 :: a5 :: some v :: r) h := rfl
@[simp ↓] theorem wVar_7 {v : MV} {r : En} {a0 : Option MV} {a1 : Option MV} {a2 : Option MV} {a3 : Option MV} {a4 : Option MV} {a5 : Option MV} {a6 : Option MV} : wVar 7 (a0 :: a1 :: a2 :: a3 :: a4 :: a5 :: a6 :: some v :: r) h q e = q v h := rfl
@[simp ↓] theorem gmName_7 {v : MV} {r : En} {a0 : Option MV} {a1 : Option MV} {a2 : Option MV} {a3 : Option MV} {a4 : Option MV} {a5 : Option MV} {a6 : Option MV} {b : Option MV} {q : En → MH → Prop} : gmName 7 v (a0 :: a1 :: a2 :: a3 :: a4 :: a5 :: a6 :: b :: r) h q e = q (a0 :: a1 :: a2 :: a3 :: a4 :: a5 :: a6 :: some v :: r) h := rfl
@[simp ↓] theorem wVar_8 {v : MV} {r : En} {a0 : Option MV} {a1 : Option MV} {a2 : Option MV} {a3 : Option MV} {a4 : Option MV} {a5 : Option MV} {a6 : Option MV} {a7 : Option MV} : wVar 8 (a0 :: a1 :: a2 :: a3 :: a4 :: a5 :: a6 :: a7 :: some v :: r) h q e = q v h := rfl
@[simp ↓] theorem gmName_8 {v : MV} {r : En} {a0 : Option MV} {a1 : Option MV} {a2 : Option MV} {a3 : Option MV} {a4 : Option MV} {a5 : Option MV} {a6 : Option MV} {a7 : Option MV} {b : Option MV} {q : En → MH → Prop} : gmName 8 v (a0 :: a1 :: a2 :: a3 :: a4 :: a5 :: a6 :: a7 :: b :: r) h q e = q (a0 :: a1 :: a2 :: a3 :: a4 :: a5 :: a6 :: a7 :: some v :: r) h := rfl
@[simp ↓] theorem wVar_9 {v : MV} {r : En} {a0 : Option MV} {a1 : Option MV} {a2 : Option MV} {a3 : Option MV} {a4 : Option MV} {a5 : Option MV} {a6 : Option MV} {a7 : Option MV} {a8 : Option MV} : wVar 9 (a0 :: a1 :: a2 :: a3 :: a4 :: a5 :: a6 :: a7 :: a8 :: some v :: r) h q e = q v h := rfl
@[simp ↓] theorem gmName_9 {v : MV} {r : En} {a0 : Option MV} {a1 : Option MV} {a2 : Option MV} {a3 : Option MV} {a4 : Option MV} {a5 : Option MV} {a6 : Option MV} {a7 : Option MV} {a8 : Option MV} {b : Option MV} {q : En → MH → Prop} : gmName 9 v (a0 :: a1 :: a2 :: a3 :: a4 :: a5 :: a6 :: a7 :: a8 :: b :: r) h q e = q (a0 :: a1 :: a2 :: a3 :: a4 :: a5 :: a6 :: a7 :: a8 :: some v :: r) h := rfl
@[simp ↓] theorem wVar_10 {v : MV} {r : En} {a0 : Option MV} {a1 : Option MV} {a2 : Option MV} {a3 : Option MV} {a4 : Option MV} {a5 : Option MV} {a6 : Option MV} {a7 : Option MV} {a8 : Option MV} {a9 : Option MV} : wVar 10 (a0 :: a1 :: a2 :: a3 :: a4 :: a5 :: a6 :: a7 :: a8 :: a9 :: some v :: r) h q e = q v h := rfl
@[simp ↓] theorem gmName_10 {v : MV} {r : En} {a0 : Option MV} {a1 : Option MV} {a2 : Option MV} {a3 : Option MV} {a4 : Option MV} {a5 : Option MV} {a6 : Option MV} {a7 : Option MV} {a8 : Option MV} {a9 : Option MV} {b : Option MV} {q : En → MH → Prop} : gmName 10 v (a0 :: a1 :: a2 :: a3 :: a4 :: a5 :: a6 :: a7 :: a8 :: a9 :: b :: r) h q e = q (a0 :: a1 :: a2 :: a3 :: a4 :: a5 :: a6 :: a7 :: a8 :: a9 :: some v :: r) h := rfl
@[simp ↓] theorem wVar_11 {v : MV} {r : En} {a0 : Option MV} {a1 : Option MV} {a2 : Option MV} {a3 : Option MV} {a4 : Option MV} {a5 : Option MV} {a6 : Option MV} {a7 : Option MV} {a8 : Option MV} {a9 : Option MV} {a10 : Option MV} : wVar 11 (a0 :: a1 :: a2 :: a3 :: a4 :: a5 :: a6 :: a7 :: a8 :: a9 :: a10 :: some v :: r) h q e = q v h := rfl
@[simp ↓] theorem gmName_11 {v : MV} {r : En} {a0 : Option MV} {a1 : Option MV} {a2 : Option MV} {a3 : Option MV} {a4 : Option MV} {a5 : Option MV} {a6 : Option MV} {a7 : Option MV} {a8 : Option MV} {a9 : Option MV} {a10 : Option MV} {b : Option MV} {q : En → MH → Prop} : gmName 11 v (a0 :: a1 :: a2 :: a3 :: a4 :: a5 :: a6 :: a7 :: a8 :: a9 :: a10 :: b :: r) h q e = q (a0 :: a1 :: a2 :: a3 :: a4 :: a5 :: a6 :: a7 :: a8 :: a9 :: a10 :: some v :: r) h := rfl
@[simp ↓] theorem wVar_12 {v : MV} {r : En} {a0 : Option MV} {a1 : Option MV} {a2 : Option MV} {a3 : Option MV} {a4 : Option MV} {a5 : Option MV} {a6 : Option MV} {a7 : Option MV} {a8 : Option MV} {a9 : Option MV} {a10 : Option MV} {a11 : Option MV} : wVar 12 (a0 :: a1 :: a2 :: a3 :: a4 :: a5 :: a6 :: a7 :: a8 :: a9 :: a10 :: a11 :: some v :: r) h q e = q v h := rfl
@[simp ↓] theorem gmName_12 {v : MV} {r : En} {a0 : Option MV} {a1 : Option MV} {a2 : Option MV} {a3 : Option MV} {a4 : Option MV} {a5 : Option MV} {a6 : Option MV} {a7 : Option MV} {a8 : Option MV} {a9 : Option MV} {a10 : Option MV} {a11 : Option MV} {b : Option MV} {q : En → MH → Prop} : gmName 12 v (a0 :: a1 :: a2 :: a3 :: a4 :: a5 :: a6 :: a7 :: a8 :: a9 :: a10 :: a11 :: b :: r) h q e = q (a0 :: a1 :: a2 :: a3 :: a4 :: a5 :: a6 :: a7 :: a8 :: a9 :: a10 :: a11 :: some v :: r) h := rfl
@[simp ↓] theorem wVar_13 {v : MV} {r : En} {a0 : Option MV} {a1 : Option MV} {a2 : Option MV} {a3 : Option MV} {a4 : Option MV} {a5 : Option MV} {a6 : Option MV} {a7 : Option MV} {a8 : Option MV} {a9 : Option MV} {a10 : Option MV} {a11 : Option MV} {a12 : Option MV} : wVar 13 (a0 :: a1 :: a2 :: a3 :: a4 :: a5 :: a6 :: a7 :: a8 :: a9 :: a10 :: a11 :: a12 :: some v :: r) h q e = q v h := rfl
@[simp ↓] theorem gmName_13 {v : MV} {r : En} {a0 : Option MV} {a1 : Option MV} {a2 : Option MV} {a3 : Option MV} {a4 : Option MV} {a5 : Option MV} {a6 : Option MV} {a7 : Option MV} {a8 : Option MV} {a9 : Option MV} {a10 : Option MV} {a11 : Option MV} {a12 : Option MV} {b : Option MV} {q : En → MH → Prop} : gmName 13 v (a0 :: a1 :: a2 :: a3 :: a4 :: a5 :: a6 :: a7 :: a8 :: a9 :: a10 :: a11 :: a12 :: b :: r) h q e = q (a0 :: a1 :: a2 :: a3 :: a4 :: a5 :: a6 :: a7 :: a8 :: a9 :: a10 :: a11 :: a12 :: some v :: r) h := rfl
@[simp ↓] theorem wVar_14 {v : MV} {r : En} {a0 : Option MV} {a1 : Option MV} {a2 : Option MV} {a3 : Option MV} {a4 : Option MV} {a5 : Option MV} {a6 : Option MV} {a7 : Option MV} {a8 : Option MV} {a9 : Option MV} {a10 : Option MV} {a11 : Option MV} {a12 : Option MV} {a13 : Option MV} : wVar 14 (a0 :: a1 :: a2 :: a3 :: a4 :: a5 :: a6 :: a7 :: a8 :: a9 :: a10 :: a11 :: a12 :: a13 :: some v :: r) h q e = q v h := rfl
@[simp ↓] theorem gmName_14 {v : MV} {r : En} {a0 : Option MV} {a1 : Option MV} {a2 : Option MV} {a3 : Option MV} {a4 : Option MV} {a5 : Option MV} {a6 : Option MV} {a7 : Option MV} {a8 : Option MV} {a9 : Option MV} {a10 : Option MV} {a11 : Option MV} {a12 : Option MV} {a13 : Option MV} {b : Option MV} {q : En → MH → Prop} : gmName 14 v (a0 :: a1 :: a2 :: a3 :: a4 :: a5 :: a6 :: a7 :: a8 :: a9 :: a10 :: a11 :: a12 :: a13 :: b :: r) h q e = q (a0 :: a1 :: a2 :: a3 :: a4 :: a5 :: a6 :: a7 :: a8 :: a9 :: a10 :: a11 :: a12 :: a13 :: some v :: r) h := rfl
@[simp ↓] theorem wVar_15 {v : MV} {r : En} {a0 : Option MV} {a1 : Option MV} {a2 : Option MV} {a3 : Option MV} {a4 : Option MV} {a5 : Option MV} {a6 : Option MV} {a7 : Option MV} {a8 : Option MV} {a9 : Option MV} {a10 : Option MV} {a11 : Option MV} {a12 : Option MV} {a13 : Option MV} {a14 : Option MV} : wVar 15 (a0 :: a1 :: a2 :: a3 :: a4 :: a5 :: a6 :: a7 :: a8 :: a9 :: a10 :: a11 :: a12 :: a13 :: a14 :: some v :: r) h q e = q v h := rfl
@[simp ↓] theorem gmName_15 {v : MV} {r : En} {a0 : Option MV} {a1 : Option MV} {a2 : Option MV} {a3 : Option MV} {a4 : Option MV} {a5 : Option MV} {a6 : Option MV} {a7 : Option MV} {a8 : Option MV} {a9 : Option MV} {a10 : Option MV} {a11 : Option MV} {a12 : Option MV} {a13 : Option MV} {a14 : Option MV} {b : Option MV} {q : En → MH → Prop} : gmName 15 v (a0 :: a1 :: a2 :: a3 :: a4 :: a5 :: a6 :: a7 :: a8 :: a9 :: a10 :: a11 :: a12 :: a13 :: a14 :: b :: r) h q e = q (a0 :: a1 :: a2 :: a3 :: a4 :: a5 :: a6 :: a7 :: a8 :: a9 :: a10 :: a11 :: a12 :: a13 :: a14 :: some v :: r) h := rfl
@[simp ↓] theorem wVar_16 {v : MV} {r : En} {a0 : Option MV} {a1 : Option MV} {a2 : Option MV} {a3 : Option MV} {a4 : Option MV} {a5 : Option MV} {a6 : Option MV} {a7 : Option MV} {a8 : Option MV} {a9 : Option MV} {a10 : Option MV} {a11 : Option MV} {a12 : Option MV} {a13 : Option MV} {a14 : Option MV} {a15 : Option MV} : wVar 16 (a0 :: a1 :: a2 :: a3 :: a4 :: a5 :: a6 :: a7 :: a8 :: a9 :: a10 :: a11 :: a12 :: a13 :: a14 :: a15 :: some v :: r) h q e = q v h := rfl
@[simp ↓] theorem gmName_16 {v : MV} {r : En} {a0 : Option MV} {a1 : Option MV} {a2 : Option MV} {a3 : Option MV} {a4 : Option MV} {a5 : Option MV} {a6 : Option MV} {a7 : Option MV} {a8 : Option MV} {a9 : Option MV} {a10 : Option MV} {a11 : Option MV} {a12 : Option MV} {a13 : Option MV} {a14 : Option MV} {a15 : Option MV} {b : Option MV} {q : En → MH → Prop} : gmName 16 v (a0 :: a1 :: a2 :: a3 :: a4 :: a5 :: a6 :: a7 :: a8 :: a9 :: a10 :: a11 :: a12 :: a13 :: a14 :: a15 :: b :: r) h q e = q (a0 :: a1 :: a2 :: a3 :: a4 :: a5 :: a6 :: a7 :: a8 :: a9 :: a10 :: a11 :: a12 :: a13 :: a14 :: a15 :: some v :: r) h := rfl
@[simp ↓] theorem wVar_17 {v : MV} {r : En} {a0 : Option MV} {a1 : Option MV} {a2 : Option MV} {a3 : Option MV} {a4 : Option MV} {a5 : Option MV} {a6 : Option MV} {a7 : Option MV} {a8 : Option MV} {a9 : Option MV} {a10 : Option MV} {a11 : Option MV} {a12 : Option MV} {a13 : Option MV} {a14 : Option MV} {a15 : Option MV} {a16 : Option MV} : wVar 17 (a0 :: a1 :: a2 :: a3 :: a4 :: a5 :: a6 :: a7 :: a8 :: a9 :: a10 :: a11 :: a12 :: a13 :: a14 :: a15 :: a16 :: some v :: r) h q e = q v h := rfl
@[simp ↓] theorem gmName_17 {v : MV} {r : En} {a0 : Option MV} {a1 : Option MV} {a2 : Option MV} {a3 : Option MV} {a4 : Option MV} {a5 : Option MV} {a6 : Option MV} {a7 : Option MV} {a8 : Option MV} {a9 : Option MV} {a10 : Option MV} {a11 : Option MV} {a12 : Option MV} {a13 : Option MV} {a14 : Option MV} {a15 : Option MV} {a16 : Option MV} {b : Option MV} {q : En → MH → Prop} : gmName 17 v (a0 :: a1 :: a2 :: a3 :: a4 :: a5 :: a6 :: a7 :: a8 :: a9 :: a10 :: a11 :: a12 :: a13 :: a14 :: a15 :: a16 :: b :: r) h q e = q (a0 :: a1 :: a2 :: a3 :: a4 :: a5 :: a6 :: a7 :: a8 :: a9 :: a10 :: a11 :: a12 :: a13 :: a14 :: a15 :: a16 :: some v :: r) h := rfl
@[simp ↓] theorem wVar_18 {v : MV} {r : En} {a0 : Option MV} {a1 : Option MV} {a2 : Option MV} {a3 : Option MV} {a4 : Option MV} {a5 : Option MV} {a6 : Option MV} {a7 : Option MV} {a8 : Option MV} {a9 : Option MV} {a10 : Option MV} {a11 : Option MV} {a12 : Option MV} {a13 : Option MV} {a14 : Option MV} {a15 : Option MV} {a16 : Option MV} {a17 : Option MV} : wVar 18 (a0 :: a1 :: a2 :: a3 :: a4 :: a5 :: a6 :: a7 :: a8 :: a9 :: a10 :: a11 :: a12 :: a13 :: a14 :: a15 :: a16 :: a17 :: some v :: r) h q e = q v h := rfl
@[simp ↓] theorem gmName_18 {v : MV} {r : En} {a0 : Option MV} {a1 : Option MV} {a2 : Option MV} {a3 : Option MV} {a4 : Option MV} {a5 : Option MV} {a6 : Option MV} {a7 : Option MV} {a8 : Option MV} {a9 : Option MV} {a10 : Option MV} {a11 : Option MV} {a12 : Option MV} {a13 : Option MV} {a14 : Option MV} {a15 : Option MV} {a16 : Option MV} {a17 : Option MV} {b : Option MV} {q : En → MH → Prop} : gmName 18 v (a0 :: a1 :: a2 :: a3 :: a4 :: a5 :: a6 :: a7 :: a8 :: a9 :: a10 :: a11 :: a12 :: a13 :: a14 :: a15 :: a16 :: a17 :: b :: r) h q e = q (a0 :: a1 :: a2 :: a3 :: a4 :: a5 :: a6 :: a7 :: a8 :: a9 :: a10 :: a11 :: a12 :: a13 :: a14 :: a15 :: a16 :: a17 :: some v :: r) h := rfl
@[simp ↓] theorem wVar_19 {v : MV} {r : En} {a0 : Option MV} {a1 : Option MV} {a2 : Option MV} {a3 : Option MV} {a4 : Option MV} {a5 : Option MV} {a6 : Option MV} {a7 : Option MV} {a8 : Option MV} {a9 : Option MV} {a10 : Option MV} {a11 : Option MV} {a12 : Option MV} {a13 : Option MV} {a14 : Option MV} {a15 : Option MV} {a16 : Option MV} {a17 : Option MV} {a18 : Option MV} : wVar 19 (a0 :: a1 :: a2 :: a3 :: a4 :: a5 :: a6 :: a7 :: a8 :: a9 :: a10 :: a11 :: a12 :: a13 :: a14 :: a15 :: a16 :: a17 :: a18 :: some v :: r) h q e = q v h := rfl
@[simp ↓] theorem gmName_19 {v : MV} {r : En} {a0 : Option MV} {a1 : Option MV} {a2 : Option MV} {a3 : Option MV} {a4 : Option MV} {a5 : Option MV} {a6 : Option MV} {a7 : Option MV} {a8 : Option MV} {a9 : Option MV} {a10 : Option MV} {a11 : Option MV} {a12 : Option MV} {a13 : Option MV} {a14 : Option MV} {a15 : Option MV} {a16 : Option MV} {a17 : Option MV} {a18 : Option MV} {b : Option MV} {q : En → MH → Prop} : gmName 19 v (a0 :: a1 :: a2 :: a3 :: a4 :: a5 :: a6 :: a7 :: a8 :: a9 :: a10 :: a11 :: a12 :: a13 :: a14 :: a15 :: a16 :: a17 :: a18 :: b :: r) h q e = q (a0 :: a1 :: a2 :: a3 :: a4 :: a5 :: a6 :: a7 :: a8 :: a9 :: a10 :: a11 :: a12 :: a13 :: a14 :: a15 :: a16 :: a17 :: a18 :: some v :: r) h := rfl
@[simp ↓] theorem wVar_20 {v : MV} {r : En} {a0 : Option MV} {a1 : Option MV} {a2 : Option MV} {a3 : Option MV} {a4 : Option MV} {a5 : Option MV} {a6 : Option MV} {a7 : Option MV} {a8 : Option MV} {a9 : Option MV} {a10 : Option MV} {a11 : Option MV} {a12 : Option MV} {a13 : Option MV} {a14 : Option MV} {a15 : Option MV} {a16 : Option MV} {a17 : Option MV} {a18 : Option MV} {a19 : Option MV} : wVar 20 (a0 :: a1 :: a2 :: a3 :: a4 :: a5 :: a6 :: a7 :: a8 :: a9 :: a10 :: a11 :: a12 :: a13 :: a14 :: a15 :: a16 :: a17 :: a18 :: a19 :: some v :: r) h q e = q v h := rfl
@[simp ↓] theorem gmName_20 {v : MV} {r : En} {a0 : Option MV} {a1 : Option MV} {a2 : Option MV} {a3 : Option MV} {a4 : Option MV} {a5 : Option MV} {a6 : Option MV} {a7 : Option MV} {a8 : Option MV} {a9 : Option MV} {a10 : Option MV} {a11 : Option MV} {a12 : Option MV} {a13 : Option MV} {a14 : Option MV} {a15 : Option MV} {a16 : Option MV} {a17 : Option MV} {a18 : Option MV} {a19 : Option MV} {b : Option MV} {q : En → MH → Prop} : gmName 20 v (a0 :: a1 :: a2 :: a3 :: a4 :: a5 :: a6 :: a7 :: a8 :: a9 :: a10 :: a11 :: a12 :: a13 :: a14 :: a15 :: a16 :: a17 :: a18 :: a19 :: b :: r) h q e = q (a0 :: a1 :: a2 :: a3 :: a4 :: a5 :: a6 :: a7 :: a8 :: a9 :: a10 :: a11 :: a12 :: a13 :: a14 :: a15 :: a16 :: a17 :: a18 :: a19 :: some v :: r) h := rfl
@[simp ↓] theorem wVar_21 {v : MV} {r : En} {a0 : Option MV} {a1 : Option MV} {a2 : Option MV} {a3 : Option MV} {a4 : Option MV} {a5 : Option MV} {a6 : Option MV} {a7 : Option MV} {a8 : Option MV} {a9 : Option MV} {a10 : Option MV} {a11 : Option MV} {a12 : Option MV} {a13 : Option MV} {a14 : Option MV} {a15 : Option MV} {a16 : Option MV} {a17 : Option MV} {a18 : Option MV} {a19 : Option MV} {a20 : Option MV} : wVar 21 (a0 :: a1 :: a2 :: a3 :: a4 :: a5 :: a6 :: a7 :: a8 :: a9 :: a10 :: a11 :: a12 :: a13 :: a14 :: a15 :: a16 :: a17 :: a18 :: a19 :: a20 :: some v :: r) h q e = q v h := rfl
@[simp ↓] theorem gmName_21 {v : MV} {r : En} {a0 : Option MV} {a1 : Option MV} {a2 : Option MV} {a3 : Option MV} {a4 : Option MV} {a5 : Option MV} {a6 : Option MV} {a7 : Option MV} {a8 : Option MV} {a9 : Option MV} {a10 : Option MV} {a11 : Option MV} {a12 : Option MV} {a13 : Option MV} {a14 : Option MV} {a15 : Option MV} {a16 : Option MV} {a17 : Option MV} {a18 : Option MV} {a19 : Option MV} {a20 : Option MV} {b : Option MV} {q : En → MH → Prop} : gmName 21 v (a0 :: a1 :: a2 :: a3 :: a4 :: a5 :: a6 :: a7 :: a8 :: a9 :: a10 :: a11 :: a12 :: a13 :: a14 :: a15 :: a16 :: a17 :: a18 :: a19 :: a20 :: b :: r) h q e = q (a0 :: a1 :: a2 :: a3 :: a4 :: a5 :: a6 :: a7 :: a8 :: a9 :: a10 :: a11 :: a12 :: a13 :: a14 :: a15 :: a16 :: a17 :: a18 :: a19 :: a20 :: some v :: r) h := rfl
@[simp ↓] theorem wVar_22 {v : MV} {r : En} {a0 : Option MV} {a1 : Option MV} {a2 : Option MV} {a3 : Option MV} {a4 : Option MV} {a5 : Option MV} {a6 : Option MV} {a7 : Option MV} {a8 : Option MV} {a9 : Option MV} {a10 : Option MV} {a11 : Option MV} {a12 : Option MV} {a13 : Option MV} {a14 : Option MV} {a15 : Option MV} {a16 : Option MV} {a17 : Option MV} {a18 : Option MV} {a19 : Option MV} {a20 : Option MV} {a21 : Option MV} : wVar 22 (a0 :: a1 :: a2 :: a3 :: a4 :: a5 :: a6 :: a7 :: a8 :: a9 :: a10 :: a11 :: a12 :: a13 :: a14 :: a15 :: a16 :: a17 :: a18 :: a19 :: a20 :: a21 :: some v :: r) h q e = q v h := rfl
@[simp ↓] theorem gmName_22 {v : MV} {r : En} {a0 : Option MV} {a1 : Option MV} {a2 : Option MV} {a3 : Option MV} {a4 : Option MV} {a5 : Option MV} {a6 : Option MV} {a7 : Option MV} {a8 : Option MV} {a9 : Option MV} {a10 : Option MV} {a11 : Option MV} {a12 : Option MV} {a13 : Option MV} {a14 : Option MV} {a15 : Option MV} {a16 : Option MV} {a17 : Option MV} {a18 : Option MV} {a19 : Option MV} {a20 : Option MV} {a21 : Option MV} {b : Option MV} {q : En → MH → Prop} : gmName 22 v (a0 :: a1 :: a2 :: a3 :: a4 :: a5 :: a6 :: a7 :: a8 :: a9 :: a10 :: a11 :: a12 :: a13 :: a14 :: a15 :: a16 :: a17 :: a18 :: a19 :: a20 :: a21 :: b :: r) h q e = q (a0 :: a1 :: a2 :: a3 :: a4 :: a5 :: a6 :: a7 :: a8 :: a9 :: a10 :: a11 :: a12 :: a13 :: a14 :: a15 :: a16 :: a17 :: a18 :: a19 :: a20 :: a21 :: some v :: r) h := rfl
@[simp ↓] theorem wVar_23 {v : MV} {r : En} {a0 : Option MV} {a1 : Option MV} {a2 : Option MV} {a3 : Option MV} {a4 : Option MV} {a5 : Option MV} {a6 : Option MV} {a7 : Option MV} {a8 : Option MV} {a9 : Option MV} {a10 : Option MV} {a11 : Option MV} {a12 : Option MV} {a13 : Option MV} {a14 : Option MV} {a15 : Option MV} {a16 : Option MV} {a17 : Option MV} {a18 : Option MV} {a19 : Option MV} {a20 : Option MV} {a21 : Option MV} {a22 : Option MV} : wVar 23 (a0 :: a1 :: a2 :: a3 :: a4 :: a5 :: a6 :: a7 :: a8 :: a9 :: a10 :: a11 :: a12 :: a13 :: a14 :: a15 :: a16 :: a17 :: a18 :: a19 :: a20 :: a21 :: a22 :: some v :: r) h q e = q v h := rfl
@[simp ↓] theorem gmName_23 {v : MV} {r : En} {a0 : Option MV} {a1 : Option MV} {a2 : Option MV} {a3 : Option MV} {a4 : Option MV} {a5 : Option MV} {a6 : Option MV} {a7 : Option MV} {a8 : Option MV} {a9 : Option MV} {a10 : Option MV} {a11 : Option MV} {a12 : Option MV} {a13 : Option MV} {a14 : Option MV} {a15 : Option MV} {a16 : Option MV} {a17 : Option MV} {a18 : Option MV} {a19 : Option MV} {a20 : Option MV} {a21 : Option MV} {a22 : Option MV} {b : Option MV} {q : En → MH → Prop} : gmName 23 v (a0 :: a1 :: a2 :: a3 :: a4 :: a5 :: a6 :: a7 :: a8 :: a9 :: a10 :: a11 :: a12 :: a13 :: a14 :: a15 :: a16 :: a17 :: a18 :: a19 :: a20 :: a21 :: a22 :: b :: r) h q e = q (a0 :: a1 :: a2 :: a3 :: a4 :: a5 :: a6 :: a7 :: a8 :: a9 :: a10 :: a11 :: a12 :: a13 :: a14 :: a15 :: a16 :: a17 :: a18 :: a19 :: a20 :: a21 :: a22 :: some v :: r) h := rfl
@[simp ↓] theorem wVar_24 {v : MV} {r : En} {a0 : Option MV} {a1 : Option MV} {a2 : Option MV} {a3 : Option MV} {a4 : Option MV} {a5 : Option MV} {a6 : Option MV} {a7 : Option MV} {a8 : Option MV} {a9 : Option MV} {a10 : Option MV} {a11 : Option MV} {a12 : Option MV} {a13 : Option MV} {a14 : Option MV} {a15 : Option MV} {a16 : Option MV} {a17 : Option MV} {a18 : Option MV} {a19 : Option MV} {a20 : Option MV} {a21 : Option MV} {a22 : Option MV} {a23 : Option MV} : wVar 24 (a0 :: a1 :: a2 :: a3 :: a4 :: a5 :: a6 :: a7 :: a8 :: a9 :: a10 :: a11 :: a12 :: a13 :: a14 :: a15 :: a16 :: a17 :: a18 :: a19 :: a20 :: a21 :: a22 :: a23 :: some v :: r) h q e = q v h := rfl
@[simp ↓] theorem gmName_24 {v : MV} {r : En} {a0 : Option MV} {a1 : Option MV} {a2 : Option MV} {a3 : Option MV} {a4 : Option MV} {a5 : Option MV} {a6 : Option MV} {a7 : Option MV} {a8 : Option MV} {a9 : Option MV} {a10 : Option MV} {a11 : Option MV} {a12 : Option MV} {a13 : Option MV} {a14 : Option MV} {a15 : Option MV} {a16 : Option MV} {a17 : Option MV} {a18 : Option MV} {a19 : Option MV} {a20 : Option MV} {a21 : Option MV} {a22 : Option MV} {a23 : Option MV} {b : Option MV} {q : En → MH → Prop} : gmName 24 v (a0 :: a1 :: a2 :: a3 :: a4 :: a5 :: a6 :: a7 :: a8 :: a9 :: a10 :: a11 :: a12 :: a13 :: a14 :: a15 :: a16 :: a17 :: a18 :: a19 :: a20 :: a21 :: a22 :: a23 :: b :: r) h q e = q (a0 :: a1 :: a2 :: a3 :: a4 :: a5 :: a6 :: a7 :: a8 :: a9 :: a10 :: a11 :: a12 :: a13 :: a14 :: a15 :: a16 :: a17 :: a18 :: a19 :: a20 :: a21 :: a22 :: a23 :: some v :: r) h := rfl
@[simp ↓] theorem wVar_25 {v : MV} {r : En} {a0 : Option MV} {a1 : Option MV} {a2 : Option MV} {a3 : Option MV} {a4 : Option MV} {a5 : Option MV} {a6 : Option MV} {a7 : Option MV} {a8 : Option MV} {a9 : Option MV} {a10 : Option MV} {a11 : Option MV} {a12 : Option MV} {a13 : Option MV} {a14 : Option MV} {a15 : Option MV} {a16 : Option MV} {a17 : Option MV} {a18 : Option MV} {a19 : Option MV} {a20 : Option MV} {a21 : Option MV} {a22 : Option MV} {a23 : Option MV} {a24 : Option MV} : wVar 25 (a0 :: a1 :: a2 :: a3 :: a4 :: a5 :: a6 :: a7 :: a8 :: a9 :: a10 :: a11 :: a12 :: a13 :: a14 :: a15 :: a16 :: a17 :: a18 :: a19 :: a20 :: a21 :: a22 :: a23 :: a24 :: some v :: r) h q e = q v h := rfl
@[simp ↓] theorem gmName_25 {v : MV} {r : En} {a0 : Option MV} {a1 : Option MV} {a2 : Option MV} {a3 : Option MV} {a4 : Option MV} {a5 : Option MV} {a6 : Option MV} {a7 : Option MV} {a8 : Option MV} {a9 : Option MV} {a10 : Option MV} {a11 : Option MV} {a12 : Option MV} {a13 : Option MV} {a14 : Option MV} {a15 : Option MV} {a16 : Option MV} {a17 : Option MV} {a18 : Option MV} {a19 : Option MV} {a20 : Option MV} {a21 : Option MV} {a22 : Option MV} {a23 : Option MV} {a24 : Option MV} {b : Option MV} {q : En → MH → Prop} : gmName 25 v (a0 :: a1 :: a2 :: a3 :: a4 :: a5 :: a6 :: a7 :: a8 :: a9 :: a10 :: a11 :: a12 :: a13 :: a14 :: a15 :: a16 :: a17 :: a18 :: a19 :: a20 :: a21 :: a22 :: a23 :: a24 :: b :: r) h q e = q (a0 :: a1 :: a2 :: a3 :: a4 :: a5 :: a6 :: a7 :: a8 :: a9 :: a10 :: a11 :: a12 :: a13 :: a14 :: a15 :: a16 :: a17 :: a18 :: a19 :: a20 :: a21 :: a22 :: a23 :: a24 :: some v :: r) h := rfl
@[simp ↓] theorem wVar_26 {v : MV} {r : En} {a0 : Option MV} {a1 : Option MV} {a2 : Option MV} {a3 : Option MV} {a4 : Option MV} {a5 : Option MV} {a6 : Option MV} {a7 : Option MV} {a8 : Option MV} {a9 : Option MV} {a10 : Option MV} {a11 : Option MV} {a12 : Option MV} {a13 : Option MV} {a14 : Option MV} {a15 : Option MV} {a16 : Option MV} {a17 : Option MV} {a18 : Option MV} {a19 : Option MV} {a20 : Option MV} {a21 : Option MV} {a22 : Option MV} {a23 : Option MV} {a24 : Option MV} {a25 : Option MV} : wVar 26 (a0 :: a1 :: a2 :: a3 :: a4 :: a5 :: a6 :: a7 :: a8 :: a9 :: a10 :: a11 :: a12 :: a13 :: a14 :: a15 :: a16 :: a17 :: a18 :: a19 :: a20 :: a21 :: a22 :: a23 :: a24 :: a25 :: some v :: r) h q e = q v h := rfl
@[simp ↓] theorem gmName_26 {v : MV} {r : En} {a0 : Option MV} {a1 : Option MV} {a2 : Option MV} {a3 : Option MV} {a4 : Option MV} {a5 : Option MV} {a6 : Option MV} {a7 : Option MV} {a8 : Option MV} {a9 : Option MV} {a10 : Option MV} {a11 : Option MV} {a12 : Option MV} {a13 : Option MV} {a14 : Option MV} {a15 : Option MV} {a16 : Option MV} {a17 : Option MV} {a18 : Option MV} {a19 : Option MV} {a20 : Option MV} {a21 : Option MV} {a22 : Option MV} {a23 : Option MV} {a24 : Option MV} {a25 : Option MV} {b : Option MV} {q : En → MH → Prop} : gmName 26 v (a0 :: a1 :: a2 :: a3 :: a4 :: a5 :: a6 :: a7 :: a8 :: a9 :: a10 :: a11 :: a12 :: a13 :: a14 :: a15 :: a16 :: a17 :: a18 :: a19 :: a20 :: a21 :: a22 :: a23 :: a24 :: a25 :: b :: r) h q e = q (a0 :: a1 :: a2 :: a3 :: a4 :: a5 :: a6 :: a7 :: a8 :: a9 :: a10 :: a11 :: a12 :: a13 :: a14 :: a15 :: a16 :: a17 :: a18 :: a19 :: a20 :: a21 :: a22 :: a23 :: a24 :: a25 :: some v :: r) h := rfl
@[simp ↓] theorem wVar_27 {v : MV} {r : En} {a0 : Option MV} {a1 : Option MV} {a2 : Option MV} {a3 : Option MV} {a4 : Option MV} {a5 : Option MV} {a6 : Option MV} {a7 : Option MV} {a8 : Option MV} {a9 : Option MV} {a10 : Option MV} {a11 : Option MV} {a12 : Option MV} {a13 : Option MV} {a14 : Option MV} {a15 : Option MV} {a16 : Option MV} {a17 : Option MV} {a18 : Option MV} {a19 : Option MV} {a20 : Option MV} {a21 : Option MV} {a22 : Option MV} {a23 : Option MV} {a24 : Option MV} {a25 : Option MV} {a26 : Option MV} : wVar 27 (a0 :: a1 :: a2 :: a3 :: a4 :: a5 :: a6 :: a7 :: a8 :: a9 :: a10 :: a11 :: a12 :: a13 :: a14 :: a15 :: a16 :: a17 :: a18 :: a19 :: a20 :: a21 :: a22 :: a23 :: a24 :: a25 :: a26 :: some v :: r) h q e = q v h := rfl
@[simp ↓] theorem gmName_27 {v : MV} {r : En} {a0 : Option MV} {a1 : Option MV} {a2 : Option MV} {a3 : Option MV} {a4 : Option MV} {a5 : Option MV} {a6 : Option MV} {a7 : Option MV} {a8 : Option MV} {a9 : Option MV} {a10 : Option MV} {a11 : Option MV} {a12 : Option MV} {a13 : Option MV} {a14 : Option MV} {a15 : Option MV} {a16 : Option MV} {a17 : Option MV} {a18 : Option MV} {a19 : Option MV} {a20 : Option MV} {a21 : Option MV} {a22 : Option MV} {a23 : Option MV} {a24 : Option MV} {a25 : Option MV} {a26 : Option MV} {b : Option MV} {q : En → MH → Prop} : gmName 27 v (a0 :: a1 :: a2 :: a3 :: a4 :: a5 :: a6 :: a7 :: a8 :: a9 :: a10 :: a11 :: a12 :: a13 :: a14 :: a15 :: a16 :: a17 :: a18 :: a19 :: a20 :: a21 :: a22 :: a23 :: a24 :: a25 :: a26 :: b :: r) h q e = q (a0 :: a1 :: a2 :: a3 :: a4 :: a5 :: a6 :: a7 :: a8 :: a9 :: a10 :: a11 :: a12 :: a13 :: a14 :: a15 :: a16 :: a17 :: a18 :: a19 :: a20 :: a21 :: a22 :: a23 :: a24 :: a25 :: a26 :: some v :: r) h := rfl
@[simp ↓] theorem wVar_28 {v : MV} {r : En} {a0 : Option MV} {a1 : Option MV} {a2 : Option MV} {a3 : Option MV} {a4 : Option MV} {a5 : Option MV} {a6 : Option MV} {a7 : Option MV} {a8 : Option MV} {a9 : Option MV} {a10 : Option MV} {a11 : Option MV} {a12 : Option MV} {a13 : Option MV} {a14 : Option MV} {a15 : Option MV} {a16 : Option MV} {a17 : Option MV} {a18 : Option MV} {a19 : Option MV} {a20 : Option MV} {a21 : Option MV} {a22 : Option MV} {a23 : Option MV} {a24 : Option MV} {a25 : Option MV} {a26 : Option MV} {a27 : Option MV} : wVar 28 (a0 :: a1 :: a2 :: a3 :: a4 :: a5 :: a6 :: a7 :: a8 :: a9 :: a10 :: a11 :: a12 :: a13 :: a14 :: a15 :: a16 :: a17 :: a18 :: a19 :: a20 :: a21 :: a22 :: a23 :: a24 :: a25 :: a26 :: a27 :: some v :: r) h q e = q v h := rfl
@[simp ↓] theorem gmName_28 {v : MV} {r : En} {a0 : Option MV} {a1 : Option MV} {a2 : Option MV} {a3 : Option MV} {a4 : Option MV} {a5 : Option MV} {a6 : Option MV} {a7 : Option MV} {a8 : Option MV} {a9 : Option MV} {a10 : Option MV} {a11 : Option MV} {a12 : Option MV} {a13 : Option MV} {a14 : Option MV} {a15 : Option MV} {a16 : Option MV} {a17 : Option MV} {a18 : Option MV} {a19 : Option MV} {a20 : Option MV} {a21 : Option MV} {a22 : Option MV} {a23 : Option MV} {a24 : Option MV} {a25 : Option MV} {a26 : Option MV} {a27 : Option MV} {b : Option MV} {q : En → MH → Prop} : gmName 28 v (a0 :: a1 :: a2 :: a3 :: a4 :: a5 :: a6 :: a7 :: a8 :: a9 :: a10 :: a11 :: a12 :: a13 :: a14 :: a15 :: a16 :: a17 :: a18 :: a19 :: a20 :: a21 :: a22 :: a23 :: a24 :: a25 :: a26 :: a27 :: b :: r) h q e = q (a0 :: a1 :: a2 :: a3 :: a4 :: a5 :: a6 :: a7 :: a8 :: a9 :: a10 :: a11 :: a12 :: a13 :: a14 :: a15 :: a16 :: a17 :: a18 :: a19 :: a20 :: a21 :: a22 :: a23 :: a24 :: a25 :: a26 :: a27 :: some v :: r) h := rfl
@[simp ↓] theorem wVar_29 {v : MV} {r : En} {a0 : Option MV} {a1 : Option MV} {a2 : Option MV} {a3 : Option MV} {a4 : Option MV} {a5 : Option MV} {a6 : Option MV} {a7 : Option MV} {a8 : Option MV} {a9 : Option MV} {a10 : Option MV} {a11 : Option MV} {a12 : Option MV} {a13 : Option MV} {a14 : Option MV} {a15 : Option MV} {a16 : Option MV} {a17 : Option MV} {a18 : Option MV} {a19 : Option MV} {a20 : Option MV} {a21 : Option MV} {a22 : Option MV} {a23 : Option MV} {a24 : Option MV} {a25 : Option MV} {a26 : Option MV} {a27 : Option MV} {a28 : Option MV} : wVar 29 (a0 :: a1 :: a2 :: a3 :: a4 :: a5 :: a6 :: a7 :: a8 :: a9 :: a10 :: a11 :: a12 :: a13 :: a14 :: a15 :: a16 :: a17 :: a18 :: a19 :: a20 :: a21 :: a22 :: a23 :: a24 :: a25 :: a26 :: a27 :: a28 :: some v :: r) h q e = q v h := rfl
@[simp ↓] theorem gmName_29 {v : MV} {r : En} {a0 : Option MV} {a1 : Option MV} {a2 : Option MV} {a3 : Option MV} {a4 : Option MV} {a5 : Option MV} {a6 : Option MV} {a7 : Option MV} {a8 : Option MV} {a9 : Option MV} {a10 : Option MV} {a11 : Option MV} {a12 : Option MV} {a13 : Option MV} {a14 : Option MV} {a15 : Option MV} {a16 : Option MV} {a17 : Option MV} {a18 : Option MV} {a19 : Option MV} {a20 : Option MV} {a21 : Option MV} {a22 : Option MV} {a23 : Option MV} {a24 : Option MV} {a25 : Option MV} {a26 : Option MV} {a27 : Option MV} {a28 : Option MV} {b : Option MV} {q : En → MH → Prop} : gmName 29 v (a0 :: a1 :: a2 :: a3 :: a4 :: a5 :: a6 :: a7 :: a8 :: a9 :: a10 :: a11 :: a12 :: a13 :: a14 :: a15 :: a16 :: a17 :: a18 :: a19 :: a20 :: a21 :: a22 :: a23 :: a24 :: a25 :: a26 :: a27 :: a28 :: b :: r) h q e = q (a0 :: a1 :: a2 :: a3 :: a4 :: a5 :: a6 :: a7 :: a8 :: a9 :: a10 :: a11 :: a12 :: a13 :: a14 :: a15 :: a16 :: a17 :: a18 :: a19 :: a20 :: a21 :: a22 :: a23 :: a24 :: a25 :: a26 :: a27 :: a28 :: some v :: r) h := rfl
@[simp ↓] theorem wVar_30 {v : MV} {r : En} {a0 : Option MV} {a1 : Option MV} {a2 : Option MV} {a3 : Option MV} {a4 : Option MV} {a5 : Option MV} {a6 : Option MV} {a7 : Option MV} {a8 : Option MV} {a9 : Option MV} {a10 : Option MV} {a11 : Option MV} {a12 : Option MV} {a13 : Option MV} {a14 : Option MV} {a15 : Option MV} {a16 : Option MV} {a17 : Option MV} {a18 : Option MV} {a19 : Option MV} {a20 : Option MV} {a21 : Option MV} {a22 : Option MV} {a23 : Option MV} {a24 : Option MV} {a25 : Option MV} {a26 : Option MV} {a27 : Option MV} {a28 : Option MV} {a29 : Option MV} : wVar 30 (a0 :: a1 :: a2 :: a3 :: a4 :: a5 :: a6 :: a7 :: a8 :: a9 :: a10 :: a11 :: a12 :: a13 :: a14 :: a15 :: a16 :: a17 :: a18 :: a19 :: a20 :: a21 :: a22 :: a23 :: a24 :: a25 :: a26 :: a27 :: a28 :: a29 :: some v :: r) h q e = q v h := rfl
@[simp ↓] theorem gmName_30 {v : MV} {r : En} {a0 : Option MV} {a1 : Option MV} {a2 : Option MV} {a3 : Option MV} {a4 : Option MV} {a5 : Option MV} {a6 : Option MV} {a7 : Option MV} {a8 : Option MV} {a9 : Option MV} {a10 : Option MV} {a11 : Option MV} {a12 : Option MV} {a13 : Option MV} {a14 : Option MV} {a15 : Option MV} {a16 : Option MV} {a17 : Option MV} {a18 : Option MV} {a19 : Option MV} {a20 : Option MV} {a21 : Option MV} {a22 : Option MV} {a23 : Option MV} {a24 : Option MV} {a25 : Option MV} {a26 : Option MV} {a27 : Option MV} {a28 : Option MV} {a29 : Option MV} {b : Option MV} {q : En → MH → Prop} : gmName 30 v (a0 :: a1 :: a2 :: a3 :: a4 :: a5 :: a6 :: a7 :: a8 :: a9 :: a10 :: a11 :: a12 :: a13 :: a14 :: a15 :: a16 :: a17 :: a18 :: a19 :: a20 :: a21 :: a22 :: a23 :: a24 :: a25 :: a26 :: a27 :: a28 :: a29 :: b :: r) h q e = q (a0 :: a1 :: a2 :: a3 :: a4 :: a5 :: a6 :: a7 :: a8 :: a9 :: a10 :: a11 :: a12 :: a13 :: a14 :: a15 :: a16 :: a17 :: a18 :: a19 :: a20 :: a21 :: a22 :: a23 :: a24 :: a25 :: a26 :: a27 :: a28 :: a29 :: some v :: r) h := rfl
@[simp ↓] theorem wVar_31 {v : MV} {r : En} {a0 : Option MV} {a1 : Option MV} {a2 : Option MV} {a3 : Option MV} {a4 : Option MV} {a5 : Option MV} {a6 : Option MV} {a7 : Option MV} {a8 : Option MV} {a9 : Option MV} {a10 : Option MV} {a11 : Option MV} {a12 : Option MV} {a13 : Option MV} {a14 : Option MV} {a15 : Option MV} {a16 : Option MV} {a17 : Option MV} {a18 : Option MV} {a19 : Option MV} {a20 : Option MV} {a21 : Option MV} {a22 : Option MV} {a23 : Option MV} {a24 : Option MV} {a25 : Option MV} {a26 : Option MV} {a27 : Option MV} {a28 : Option MV} {a29 : Option MV} {a30 : Option MV} : wVar 31 (a0 :: a1 :: a2 :: a3 :: a4 :: a5 :: a6 :: a7 :: a8 :: a9 :: a10 :: a11 :: a12 :: a13 :: a14 :: a15 :: a16 :: a17 :: a18 :: a19 :: a20 :: a21 :: a22 :: a23 :: a24 :: a25 :: a26 :: a27 :: a28 :: a29 :: a30 :: some v :: r) h q e = q v h := rfl
@[simp ↓] theorem gmName_31 {v : MV} {r : En} {a0 : Option MV} {a1 : Option MV} {a2 : Option MV} {a3 : Option MV} {a4 : Option MV} {a5 : Option MV} {a6 : Option MV} {a7 : Option MV} {a8 : Option MV} {a9 : Option MV} {a10 : Option MV} {a11 : Option MV} {a12 : Option MV} {a13 : Option MV} {a14 : Option MV} {a15 : Option MV} {a16 : Option MV} {a17 : Option MV} {a18 : Option MV} {a19 : Option MV} {a20 : Option MV} {a21 : Option MV} {a22 : Option MV} {a23 : Option MV} {a24 : Option MV} {a25 : Option MV} {a26 : Option MV} {a27 : Option MV} {a28 : Option MV} {a29 : Option MV} {a30 : Option MV} {b : Option MV} {q : En → MH → Prop} : gmName 31 v (a0 :: a1 :: a2 :: a3 :: a4 :: a5 :: a6 :: a7 :: a8 :: a9 :: a10 :: a11 :: a12 :: a13 :: a14 :: a15 :: a16 :: a17 :: a18 :: a19 :: a20 :: a21 :: a22 :: a23 :: a24 :: a25 :: a26 :: a27 :: a28 :: a29 :: a30 :: b :: r) h q e = q (a0 :: a1 :: a2 :: a3 :: a4 :: a5 :: a6 :: a7 :: a8 :: a9 :: a10 :: a11 :: a12 :: a13 :: a14 :: a15 :: a16 :: a17 :: a18 :: a19 :: a20 :: a21 :: a22 :: a23 :: a24 :: a25 :: a26 :: a27 :: a28 :: a29 :: a30 :: some v :: r) h := rfl
@[simp ↓] theorem wVar_32 {v : MV} {r : En} {a0 : Option MV} {a1 : Option MV} {a2 : Option MV} {a3 : Option MV} {a4 : Option MV} {a5 : Option MV} {a6 : Option MV} {a7 : Option MV} {a8 : Option MV} {a9 : Option MV} {a10 : Option MV} {a11 : Option MV} {a12 : Option MV} {a13 : Option MV} {a14 : Option MV} {a15 : Option MV} {a16 : Option MV} {a17 : Option MV} {a18 : Option MV} {a19 : Option MV} {a20 : Option MV} {a21 : Option MV} {a22 : Option MV} {a23 : Option MV} {a24 : Option MV} {a25 : Option MV} {a26 : Option MV} {a27 : Option MV} {a28 : Option MV} {a29 : Option MV} {a30 : Option MV} {a31 : Option MV} : wVar 32 (a0 :: a1 :: a2 :: a3 :: a4 :: a5 :: a6 :: a7 :: a8 :: a9 :: a10 :: a11 :: a12 :: a13 :: a14 :: a15 :: a16 :: a17 :: a18 :: a19 :: a20 :: a21 :: a22 :: a23 :: a24 :: a25 :: a26 :: a27 :: a28 :: a29 :: a30 :: a31 :: some v :: r) h q e = q v h := rfl
@[simp ↓] theorem gmName_32 {v : MV} {r : En} {a0 : Option MV} {a1 : Option MV} {a2 : Option MV} {a3 : Option MV} {a4 : Option MV} {a5 : Option MV} {a6 : Option MV} {a7 : Option MV} {a8 : Option MV} {a9 : Option MV} {a10 : Option MV} {a11 : Option MV} {a12 : Option MV} {a13 : Option MV} {a14 : Option MV} {a15 : Option MV} {a16 : Option MV} {a17 : Option MV} {a18 : Option MV} {a19 : Option MV} {a20 : Option MV} {a21 : Option MV} {a22 : Option MV} {a23 : Option MV} {a24 : Option MV} {a25 : Option MV} {a26 : Option MV} {a27 : Option MV} {a28 : Option MV} {a29 : Option MV} {a30 : Option MV} {a31 : Option MV} {b : Option MV} {q : En → MH → Prop} : gmName 32 v (a0 :: a1 :: a2 :: a3 :: a4 :: a5 :: a6 :: a7 :: a8 :: a9 :: a10 :: a11 :: a12 :: a13 :: a14 :: a15 :: a16 :: a17 :: a18 :: a19 :: a20 :: a21 :: a22 :: a23 :: a24 :: a25 :: a26 :: a27 :: a28 :: a29 :: a30 :: a31 :: b :: r) h q e = q (a0 :: a1 :: a2 :: a3 :: a4 :: a5 :: a6 :: a7 :: a8 :: a9 :: a10 :: a11 :: a12 :: a13 :: a14 :: a15 :: a16 :: a17 :: a18 :: a19 :: a20 :: a21 :: a22 :: a23 :: a24 :: a25 :: a26 :: a27 :: a28 :: a29 :: a30 :: a31 :: some v :: r) h := rfl
@[simp ↓] theorem wVar_33 {v : MV} {r : En} {a0 : Option MV} {a1 : Option MV} {a2 : Option MV} {a3 : Option MV} {a4 : Option MV} {a5 : Option MV} {a6 : Option MV} {a7 : Option MV} {a8 : Option MV} {a9 : Option MV} {a10 : Option MV} {a11 : Option MV} {a12 : Option MV} {a13 : Option MV} {a14 : Option MV} {a15 : Option MV} {a16 : Option MV} {a17 : Option MV} {a18 : Option MV} {a19 : Option MV} {a20 : Option MV} {a21 : Option MV} {a22 : Option MV} {a23 : Option MV} {a24 : Option MV} {a25 : Option MV} {a26 : Option MV} {a27 : Option MV} {a28 : Option MV} {a29 : Option MV} {a30 : Option MV} {a31 : Option MV} {a32 : Option MV} : wVar 33 (a0 :: a1 :: a2 :: a3 :: a4 :: a5 :: a6 :: a7 :: a8 :: a9 :: a10 :: a11 :: a12 :: a13 :: a14 :: a15 :: a16 :: a17 :: a18 :: a19 :: a20 :: a21 :: a22 :: a23 :: a24 :: a25 :: a26 :: a27 :: a28 :: a29 :: a30 :: a31 :: a32 :: some v :: r) h q e = q v h := rfl
@[simp ↓] theorem gmName_33 {v : MV} {r : En} {a0 : Option MV} {a1 : Option MV} {a2 : Option MV} {a3 : Option MV} {a4 : Option MV} {a5 : Option MV} {a6 : Option MV} {a7 : Option MV} {a8 : Option MV} {a9 : Option MV} {a10 : Option MV} {a11 : Option MV} {a12 : Option MV} {a13 : Option MV} {a14 : Option MV} {a15 : Option MV} {a16 : Option MV} {a17 : Option MV} {a18 : Option MV} {a19 : Option MV} {a20 : Option MV} {a21 : Option MV} {a22 : Option MV} {a23 : Option MV} {a24 : Option MV} {a25 : Option MV} {a26 : Option MV} {a27 : Option MV} {a28 : Option MV} {a29 : Option MV} {a30 : Option MV} {a31 : Option MV} {a32 : Option MV} {b : Option MV} {q : En → MH → Prop} : gmName 33 v (a0 :: a1 :: a2 :: a3 :: a4 :: a5 :: a6 :: a7 :: a8 :: a9 :: a10 :: a11 :: a12 :: a13 :: a14 :: a15 :: a16 :: a17 :: a18 :: a19 :: a20 :: a21 :: a22 :: a23 :: a24 :: a25 :: a26 :: a27 :: a28 :: a29 :: a30 :: a31 :: a32 :: b :: r) h q e = q (a0 :: a1 :: a2 :: a3 :: a4 :: a5 :: a6 :: a7 :: a8 :: a9 :: a10 :: a11 :: a12 :: a13 :: a14 :: a15 :: a16 :: a17 :: a18 :: a19 :: a20 :: a21 :: a22 :: a23 :: a24 :: a25 :: a26 :: a27 :: a28 :: a29 :: a30 :: a31 :: a32 :: some v :: r) h := rfl
@[simp ↓] theorem wVar_34 {v : MV} {r : En} {a0 : Option MV} {a1 : Option MV} {a2 : Option MV} {a3 : Option MV} {a4 : Option MV} {a5 : Option MV} {a6 : Option MV} {a7 : Option MV} {a8 : Option MV} {a9 : Option MV} {a10 : Option MV} {a11 : Option MV} {a12 : Option MV} {a13 : Option MV} {a14 : Option MV} {a15 : Option MV} {a16 : Option MV} {a17 : Option MV} {a18 : Option MV} {a19 : Option MV} {a20 : Option MV} {a21 : Option MV} {a22 : Option MV} {a23 : Option MV} {a24 : Option MV} {a25 : Option MV} {a26 : Option MV} {a27 : Option MV} {a28 : Option MV} {a29 : Option MV} {a30 : Option MV} {a31 : Option MV} {a32 : Option MV} {a33 : Option MV} : wVar 34 (a0 :: a1 :: a2 :: a3 :: a4 :: a5 :: a6 :: a7 :: a8 :: a9 :: a10 :: a11 :: a12 :: a13 :: a14 :: a15 :: a16 :: a17 :: a18 :: a19 :: a20 :: a21 :: a22 :: a23 :: a24 :: a25 :: a26 :: a27 :: a28 :: a29 :: a30 :: a31 :: a32 :: a33 :: some v :: r) h q e = q v h := rfl
@[simp ↓] theorem gmName_34 {v : MV} {r : En} {a0 : Option MV} {a1 : Option MV} {a2 : Option MV} {a3 : Option MV} {a4 : Option MV} {a5 : Option MV} {a6 : Option MV} {a7 : Option MV} {a8 : Option MV} {a9 : Option MV} {a10 : Option MV} {a11 : Option MV} {a12 : Option MV} {a13 : Option MV} {a14 : Option MV} {a15 : Option MV} {a16 : Option MV} {a17 : Option MV} {a18 : Option MV} {a19 : Option MV} {a20 : Option MV} {a21 : Option MV} {a22 : Option MV} {a23 : Option MV} {a24 : Option MV} {a25 : Option MV} {a26 : Option MV} {a27 : Option MV} {a28 : Option MV} {a29 : Option MV} {a30 : Option MV} {a31 : Option MV} {a32 : Option MV} {a33 : Option MV} {b : Option MV} {q : En → MH → Prop} : gmName 34 v (a0 :: a1 :: a2 :: a3 :: a4 :: a5 :: a6 :: a7 :: a8 :: a9 :: a10 :: a11 :: a12 :: a13 :: a14 :: a15 :: a16 :: a17 :: a18 :: a19 :: a20 :: a21 :: a22 :: a23 :: a24 :: a25 :: a26 :: a27 :: a28 :: a29 :: a30 :: a31 :: a32 :: a33 :: b :: r) h q e = q (a0 :: a1 :: a2 :: a3 :: a4 :: a5 :: a6 :: a7 :: a8 :: a9 :: a10 :: a11 :: a12 :: a13 :: a14 :: a15 :: a16 :: a17 :: a18 :: a19 :: a20 :: a21 :: a22 :: a23 :: a24 :: a25 :: a26 :: a27 :: a28 :: a29 :: a30 :: a31 :: a32 :: a33 :: some v :: r) h := rfl
@[simp ↓] theorem wVar_35 {v : MV} {r : En} {a0 : Option MV} {a1 : Option MV} {a2 : Option MV} {a3 : Option MV} {a4 : Option MV} {a5 : Option MV} {a6 : Option MV} {a7 : Option MV} {a8 : Option MV} {a9 : Option MV} {a10 : Option MV} {a11 : Option MV} {a12 : Option MV} {a13 : Option MV} {a14 : Option MV} {a15 : Option MV} {a16 : Option MV} {a17 : Option MV} {a18 : Option MV} {a19 : Option MV} {a20 : Option MV} {a21 : Option MV} {a22 : Option MV} {a23 : Option MV} {a24 : Option MV} {a25 : Option MV} {a26 : Option MV} {a27 : Option MV} {a28 : Option MV} {a29 : Option MV} {a30 : Option MV} {a31 : Option MV} {a32 : Option MV} {a33 : Option MV} {a34 : Option MV} : wVar 35 (a0 :: a1 :: a2 :: a3 :: a4 :: a5 :: a6 :: a7 :: a8 :: a9 :: a10 :: a11 :: a12 :: a13 :: a14 :: a15 :: a16 :: a17 :: a18 :: a19 :: a20 :: a21 :: a22 :: a23 :: a24 :: a25 :: a26 :: a27 :: a28 :: a29 :: a30 :: a31 :: a32 :: a33 :: a34 :: some v :: r) h q e = q v h := rfl
@[simp ↓] theorem gmName_35 {v : MV} {r : En} {a0 : Option MV} {a1 : Option MV} {a2 : Option MV} {a3 : Option MV} {a4 : Option MV} {a5 : Option MV} {a6 : Option MV} {a7 : Option MV} {a8 : Option MV} {a9 : Option MV} {a10 : Option MV} {a11 : Option MV} {a12 : Option MV} {a13 : Option MV} {a14 : Option MV} {a15 : Option MV} {a16 : Option MV} {a17 : Option MV} {a18 : Option MV} {a19 : Option MV} {a20 : Option MV} {a21 : Option MV} {a22 : Option MV} {a23 : Option MV} {a24 : Option MV} {a25 : Option MV} {a26 : Option MV} {a27 : Option MV} {a28 : Option MV} {a29 : Option MV} {a30 : Option MV} {a31 : Option MV} {a32 : Option MV} {a33 : Option MV} {a34 : Option MV} {b : Option MV} {q : En → MH → Prop} : gmName 35 v (a0 :: a1 :: a2 :: a3 :: a4 :: a5 :: a6 :: a7 :: a8 :: a9 :: a10 :: a11 :: a12 :: a13 :: a14 :: a15 :: a16 :: a17 :: a18 :: a19 :: a20 :: a21 :: a22 :: a23 :: a24 :: a25 :: a26 :: a27 :: a28 :: a29 :: a30 :: a31 :: a32 :: a33 :: a34 :: b :: r) h q e = q (a0 :: a1 :: a2 :: a3 :: a4 :: a5 :: a6 :: a7 :: a8 :: a9 :: a10 :: a11 :: a12 :: a13 :: a14 :: a15 :: a16 :: a17 :: a18 :: a19 :: a20 :: a21 :: a22 :: a23 :: a24 :: a25 :: a26 :: a27 :: a28 :: a29 :: a30 :: a31 :: a32 :: a33 :: a34 :: some v :: r) h := rfl
@[simp ↓] theorem wVar_36 {v : MV} {r : En} {a0 : Option MV} {a1 : Option MV} {a2 : Option MV} {a3 : Option MV} {a4 : Option MV} {a5 : Option MV} {a6 : Option MV} {a7 : Option MV} {a8 : Option MV} {a9 : Option MV} {a10 : Option MV} {a11 : Option MV} {a12 : Option MV} {a13 : Option MV} {a14 : Option MV} {a15 : Option MV} {a16 : Option MV} {a17 : Option MV} {a18 : Option MV} {a19 : Option MV} {a20 : Option MV} {a21 : Option MV} {a22 : Option MV} {a23 : Option MV} {a24 : Option MV} {a25 : Option MV} {a26 : Option MV} {a27 : Option MV} {a28 : Option MV} {a29 : Option MV} {a30 : Option MV} {a31 : Option MV} {a32 : Option MV} {a33 : Option MV} {a34 : Option MV} {a35 : Option MV} : wVar 36 (a0 :: a1 :: a2 :: a3 :: a4 :: a5 :: a6 :: a7 :: a8 :: a9 :: a10 :: a11 :: a12 :: a13 :: a14 :: a15 :: a16 :: a17 :: a18 :: a19 :: a20 :: a21 :: a22 :: a23 :: a24 :: a25 :: a26 :: a27 :: a28 :: a29 :: a30 :: a31 :: a32 :: a33 :: a34 :: a35 :: some v :: r) h q e = q v h := rfl
@[simp ↓] theorem gmName_36 {v : MV} {r : En} {a0 : Option MV} {a1 : Option MV} {a2 : Option MV} {a3 : Option MV} {a4 : Option MV} {a5 : Option MV} {a6 : Option MV} {a7 : Option MV} {a8 : Option MV} {a9 : Option MV} {a10 : Option MV} {a11 : Option MV} {a12 : Option MV} {a13 : Option MV} {a14 : Option MV} {a15 : Option MV} {a16 : Option MV} {a17 : Option MV} {a18 : Option MV} {a19 : Option MV} {a20 : Option MV} {a21 : Option MV} {a22 : Option MV} {a23 : Option MV} {a24 : Option MV} {a25 : Option MV} {a26 : Option MV} {a27 : Option MV} {a28 : Option MV} {a29 : Option MV} {a30 : Option MV} {a31 : Option MV} {a32 : Option MV} {a33 : Option MV} {a34 : Option MV} {a35 : Option MV} {b : Option MV} {q : En → MH → Prop} : gmName 36 v (a0 :: a1 :: a2 :: a3 :: a4 :: a5 :: a6 :: a7 :: a8 :: a9 :: a10 :: a11 :: a12 :: a13 :: a14 :: a15 :: a16 :: a17 :: a18 :: a19 :: a20 :: a21 :: a22 :: a23 :: a24 :: a25 :: a26 :: a27 :: a28 :: a29 :: a30 :: a31 :: a32 :: a33 :: a34 :: a35 :: b :: r) h q e = q (a0 :: a1 :: a2 :: a3 :: a4 :: a5 :: a6 :: a7 :: a8 :: a9 :: a10 :: a11 :: a12 :: a13 :: a14 :: a15 :: a16 :: a17 :: a18 :: a19 :: a20 :: a21 :: a22 :: a23 :: a24 :: a25 :: a26 :: a27 :: a28 :: a29 :: a30 :: a31 :: a32 :: a33 :: a34 :: a35 :: some v :: r) h := rfl
@[simp ↓] theorem wVar_37 {v : MV} {r : En} {a0 : Option MV} {a1 : Option MV} {a2 : Option MV} {a3 : Option MV} {a4 : Option MV} {a5 : Option MV} {a6 : Option MV} {a7 : Option MV} {a8 : Option MV} {a9 : Option MV} {a10 : Option MV} {a11 : Option MV} {a12 : Option MV} {a13 : Option MV} {a14 : Option MV} {a15 : Option MV} {a16 : Option MV} {a17 : Option MV} {a18 : Option MV} {a19 : Option MV} {a20 : Option MV} {a21 : Option MV} {a22 : Option MV} {a23 : Option MV} {a24 : Option MV} {a25 : Option MV} {a26 : Option MV} {a27 : Option MV} {a28 : Option MV} {a29 : Option MV} {a30 : Option MV} {a31 : Option MV} {a32 : Option MV} {a33 : Option MV} {a34 : Option MV} {a35 : Option MV} {a36 : Option MV} : wVar 37 (a0 :: a1 :: a2 :: a3 :: a4 :: a5 :: a6 :: a7 :: a8 :: a9 :: a10 :: a11 :: a12 :: a13 :: a14 :: a15 :: a16 :: a17 :: a18 :: a19 :: a20 :: a21 :: a22 :: a23 :: a24 :: a25 :: a26 :: a27 :: a28 :: a29 :: a30 :: a31 :: a32 :: a33 :: a34 :: a35 :: a36 :: some v :: r) h q e = q v h := rfl
@[simp ↓] theorem gmName_37 {v : MV} {r : En} {a0 : Option MV} {a1 : Option MV} {a2 : Option MV} {a3 : Option MV} {a4 : Option MV} {a5 : Option MV} {a6 : Option MV} {a7 : Option MV} {a8 : Option MV} {a9 : Option MV} {a10 : Option MV} {a11 : Option MV} {a12 : Option MV} {a13 : Option MV} {a14 : Option MV} {a15 : Option MV} {a16 : Option MV} {a17 : Option MV} {a18 : Option MV} {a19 : Option MV} {a20 : Option MV} {a21 : Option MV} {a22 : Option MV} {a23 : Option MV} {a24 : Option MV} {a25 : Option MV} {a26 : Option MV} {a27 : Option MV} {a28 : Option MV} {a29 : Option MV} {a30 : Option MV} {a31 : Option MV} {a32 : Option MV} {a33 : Option MV} {a34 : Option MV} {a35 : Option MV} {a36 : Option MV} {b : Option MV} {q : En → MH → Prop} : gmName 37 v (a0 :: a1 :: a2 :: a3 :: a4 :: a5 :: a6 :: a7 :: a8 :: a9 :: a10 :: a11 :: a12 :: a13 :: a14 :: a15 :: a16 :: a17 :: a18 :: a19 :: a20 :: a21 :: a22 :: a23 :: a24 :: a25 :: a26 :: a27 :: a28 :: a29 :: a30 :: a31 :: a32 :: a33 :: a34 :: a35 :: a36 :: b :: r) h q e = q (a0 :: a1 :: a2 :: a3 :: a4 :: a5 :: a6 :: a7 :: a8 :: a9 :: a10 :: a11 :: a12 :: a13 :: a14 :: a15 :: a16 :: a17 :: a18 :: a19 :: a20 :: a21 :: a22 :: a23 :: a24 :: a25 :: a26 :: a27 :: a28 :: a29 :: a30 :: a31 :: a32 :: a33 :: a34 :: a35 :: a36 :: some v :: r) h := rfl
@[simp ↓] theorem wVar_38 {v : MV} {r : En} {a0 : Option MV} {a1 : Option MV} {a2 : Option MV} {a3 : Option MV} {a4 : Option MV} {a5 : Option MV} {a6 : Option MV} {a7 : Option MV} {a8 : Option MV} {a9 : Option MV} {a10 : Option MV} {a11 : Option MV} {a12 : Option MV} {a13 : Option MV} {a14 : Option MV} {a15 : Option MV} {a16 : Option MV} {a17 : Option MV} {a18 : Option MV} {a19 : Option MV} {a20 : Option MV} {a21 : Option MV} {a22 : Option MV} {a23 : Option MV} {a24 : Option MV} {a25 : Option MV} {a26 : Option MV} {a27 : Option MV} {a28 : Option MV} {a29 : Option MV} {a30 : Option MV} {a31 : Option MV} {a32 : Option MV} {a33 : Option MV} {a34 : Option MV} {a35 : Option MV} {a36 : Option MV} {a37 : Option MV} : wVar 38 (a0 :: a1 :: a2 :: a3 :: a4 :: a5 :: a6 :: a7 :: a8 :: a9 :: a10 :: a11 :: a12 :: a13 :: a14 :: a15 :: a16 :: a17 :: a18 :: a19 :: a20 :: a21 :: a22 :: a23 :: a24 :: a25 :: a26 :: a27 :: a28 :: a29 :: a30 :: a31 :: a32 :: a33 :: a34 :: a35 :: a36 :: a37 :: some v :: r) h q e = q v h := rfl
@[simp ↓] theorem gmName_38 {v : MV} {r : En} {a0 : Option MV} {a1 : Option MV} {a2 : Option MV} {a3 : Option MV} {a4 : Option MV} {a5 : Option MV} {a6 : Option MV} {a7 : Option MV} {a8 : Option MV} {a9 : Option MV} {a10 : Option MV} {a11 : Option MV} {a12 : Option MV} {a13 : Option MV} {a14 : Option MV} {a15 : Option MV} {a16 : Option MV} {a17 : Option MV} {a18 : Option MV} {a19 : Option MV} {a20 : Option MV} {a21 : Option MV} {a22 : Option MV} {a23 : Option MV} {a24 : Option MV} {a25 : Option MV} {a26 : Option MV} {a27 : Option MV} {a28 : Option MV} {a29 : Option MV} {a30 : Option MV} {a31 : Option MV} {a32 : Option MV} {a33 : Option MV} {a34 : Option MV} {a35 : Option MV} {a36 : Option MV} {a37 : Option MV} {b : Option MV} {q : En → MH → Prop} : gmName 38 v (a0 :: a1 :: a2 :: a3 :: a4 :: a5 :: a6 :: a7 :: a8 :: a9 :: a10 :: a11 :: a12 :: a13 :: a14 :: a15 :: a16 :: a17 :: a18 :: a19 :: a20 :: a21 :: a22 :: a23 :: a24 :: a25 :: a26 :: a27 :: a28 :: a29 :: a30 :: a31 :: a32 :: a33 :: a34 :: a35 :: a36 :: a37 :: b :: r) h q e = q (a0 :: a1 :: a2 :: a3 :: a4 :: a5 :: a6 :: a7 :: a8 :: a9 :: a10 :: a11 :: a12 :: a13 :: a14 :: a15 :: a16 :: a17 :: a18 :: a19 :: a20 :: a21 :: a22 :: a23 :: a24 :: a25 :: a26 :: a27 :: a28 :: a29 :: a30 :: a31 :: a32 :: a33 :: a34 :: a35 :: a36 :: a37 :: some v :: r) h := rfl
@[simp ↓] theorem wVar_39 {v : MV} {r : En} {a0 : Option MV} {a1 : Option MV} {a2 : Option MV} {a3 : Option MV} {a4 : Option MV} {a5 : Option MV} {a6 : Option MV} {a7 : Option MV} {a8 : Option MV} {a9 : Option MV} {a10 : Option MV} {a11 : Option MV} {a12 : Option MV} {a13 : Option MV} {a14 : Option MV} {a15 : Option MV} {a16 : Option MV} {a17 : Option MV} {a18 : Option MV} {a19 : Option MV} {a20 : Option MV} {a21 : Option MV} {a22 : Option MV} {a23 : Option MV} {a24 : Option MV} {a25 : Option MV} {a26 : Option MV} {a27 : Option MV} {a28 : Option MV} {a29 : Option MV} {a30 : Option MV} {a31 : Option MV} {a32 : Option MV} {a33 : Option MV} {a34 : Option MV} {a35 : Option MV} {a36 : Option MV} {a37 : Option MV} {a38 : Option MV} : wVar 39 (a0 :: a1 :: a2 :: a3 :: a4 :: a5 :: a6 :: a7 :: a8 :: a9 :: a10 :: a11 :: a12 :: a13 :: a14 :: a15 :: a16 :: a17 :: a18 :: a19 :: a20 :: a21 :: a22 :: a23 :: a24 :: a25 :: a26 :: a27 :: a28 :: a29 :: a30 :: a31 :: a32 :: a33 :: a34 :: a35 :: a36 :: a37 :: a38 :: some v :: r) h q e = q v h := rfl
@[simp ↓] theorem gmName_39 {v : MV} {r : En} {a0 : Option MV} {a1 : Option MV} {a2 : Option MV} {a3 : Option MV} {a4 : Option MV} {a5 : Option MV} {a6 : Option MV} {a7 : Option MV} {a8 : Option MV} {a9 : Option MV} {a10 : Option MV} {a11 : Option MV} {a12 : Option MV} {a13 : Option MV} {a14 : Option MV} {a15 : Option MV} {a16 : Option MV} {a17 : Option MV} {a18 : Option MV} {a19 : Option MV} {a20 : Option MV} {a21 : Option MV} {a22 : Option MV} {a23 : Option MV} {a24 : Option MV} {a25 : Option MV} {a26 : Option MV} {a27 : Option MV} {a28 : Option MV} {a29 : Option MV} {a30 : Option MV} {a31 : Option MV} {a32 : Option MV} {a33 : Option MV} {a34 : Option MV} {a35 : Option MV} {a36 : Option MV} {a37 : Option MV} {a38 : Option MV} {b : Option MV} {q : En → MH → Prop} : gmName 39 v (a0 :: a1 :: a2 :: a3 :: a4 :: a5 :: a6 :: a7 :: a8 :: a9 :: a10 :: a11 :: a12 :: a13 :: a14 :: a15 :: a16 :: a17 :: a18 :: a19 :: a20 :: a21 :: a22 :: a23 :: a24 :: a25 :: a26 :: a27 :: a28 :: a29 :: a30 :: a31 :: a32 :: a33 :: a34 :: a35 :: a36 :: a37 :: a38 :: b :: r) h q e = q (a0 :: a1 :: a2 :: a3 :: a4 :: a5 :: a6 :: a7 :: a8 :: a9 :: a10 :: a11 :: a12 :: a13 :: a14 :: a15 :: a16 :: a17 :: a18 :: a19 :: a20 :: a21 :: a22 :: a23 :: a24 :: a25 :: a26 :: a27 :: a28 :: a29 :: a30 :: a31 :: a32 :: a33 :: a34 :: a35 :: a36 :: a37 :: a38 :: some v :: r) h := rfl
@[simp ↓] theorem wC_s {v : MV} : wC v ρ h q e = q v h := rfl
@[simp ↓] theorem wNil_s {q : List MV → MH → Prop} : wNil ρ h q e = q [] h := rfl
def kCons2 (x : MV) (q : List MV → MH → Prop) : List MV → MH → Prop := fun xs h => q (x :: xs) h
@[simp ↓] theorem kCons2_s {x : MV} {xs : List MV} {q : List MV → MH → Prop} : kCons2 x q xs h = q (x :: xs) h := rfl
def kCons (r : WA) (ρ : En) (q : List MV → MH → Prop) (e : QX) : QV := fun x h => r ρ h (kCons2 x q) e
@[simp ↓] theorem kCons_s {r : WA} {x : MV} {q : List MV → MH → Prop} : kCons r ρ q e x h = r ρ h (kCons2 x q) e := rfl
@[simp ↓] theorem wCons_s {w : WE} {r : WA} {q : List MV → MH → Prop} : wCons w r ρ h q e = w ρ h (kCons r ρ q e) e := rfl
def kTup (q : QV) : List MV → MH → Prop := fun xs h => xs.length ≤ sizeLine ∧ q (.tup xs) h
@[simp ↓] theorem kTup_s {xs : List MV} : kTup q xs h = (xs.length ≤ sizeLine ∧ q (.tup xs) h) := rfl
@[simp ↓] theorem wTup_s {a : WA} : wTup a ρ h q e = a ρ h (kTup q) e := rfl
def kLst (q : QV) : List MV → MH → Prop := fun xs h => xs.length ≤ sizeLine ∧ newL h (.lst xs) q
@[simp ↓] theorem kLst_s {xs : List MV} : kLst q xs h = (xs.length ≤ sizeLine ∧ newL h (.lst xs) q) := rfl
@[simp ↓] theorem wLst_s {a : WA} : wLst a ρ h q e = a ρ h (kLst q) e := rfl
def kBin2 (B : B2) (x : MV) (q : QV) (e : QX) : QV := fun y h => B x y h q e
@[simp ↓] theorem kBin2_s {B : B2} {x y : MV} : kBin2 B x q e y h = B x y h q e := rfl
def kBin1 (B : B2) (b : WE) (ρ : En) (q : QV) (e : QX) : QV := fun x h => b ρ h (kBin2 B x q e) e
@[simp ↓] theorem kBin1_s {B : B2} {b : WE} {x : MV} : kBin1 B b ρ q e x h = b ρ h (kBin2 B x q e) e := rfl
@[simp ↓] theorem wBin_s {B : B2} {a b : WE} : wBin B a b ρ h q e = a ρ h (kBin1 B b ρ q e) e := rfl
def kTB (q : Bool → MH → Prop) : QV := fun x h => match x with | .bl b => q b h | _ => False
@[simp ↓] theorem kTB_s {b : Bool} {q : Bool → MH → Prop} : kTB q (.bl b) h = q b h := rfl
@[simp ↓] theorem wTB_s {w : WE} {q : Bool → MH → Prop} : wTB w ρ h q e = w ρ h (kTB q) e := rfl
def kAnd (u : WT) (ρ : En) (q : Bool → MH → Prop) (e : QX) : Bool → MH → Prop := fun c h => match c with | true => u ρ h q e | false => q false h
@[simp ↓] theorem kAnd_s {u : WT} {c : Bool} {q : Bool → MH → Prop} : kAnd u ρ q e c h = (if c = true then u ρ h q e else q false h) := by cases c <;> rfl
@[simp ↓] theorem wAnd_s {t u : WT} {q : Bool → MH → Prop} : wAnd t u ρ h q e = t ρ h (kAnd u ρ q e) e := rfl
def kOr (u : WT) (ρ : En) (q : Bool → MH → Prop) (e : QX) : Bool → MH → Prop := fun c h => match c with | true => q true h | false => u ρ h q e
@[simp ↓] theorem kOr_s {u : WT} {c : Bool} {q : Bool → MH → Prop} : kOr u ρ q e c h = (if c = true then q true h else u ρ h q e) := by cases c <;> rfl
@[simp ↓] theorem wOr_s {t u : WT} {q : Bool → MH → Prop} : wOr t u ρ h q e = t ρ h (kOr u ρ q e) e := rfl
def kNot (q : Bool → MH → Prop) : Bool → MH → Prop := fun c h => q (!c) h
@[simp ↓] theorem kNot_s {c : Bool} {q : Bool → MH → Prop} : kNot q c h = q (!c) h := rfl
@[simp ↓] theorem wNot_s {t : WT} {q : Bool → MH → Prop} : wNot t ρ h q e = t ρ h (kNot q) e := rfl
def kAndV (b : WE) (ρ : En) (q : QV) (e : QX) : QV := fun x h => match x with | .bl true => b ρ h q e | .bl false => q (.bl false) h | _ => False
@[simp ↓] theorem kAndV_s {b : WE} {c : Bool} : kAndV b ρ q e (.bl c) h = (if c = true then b ρ h q e else q (.bl false) h) := by cases c <;> rfl
@[simp ↓] theorem wAndV_s {a b : WE} : wAndV a b ρ h q e = a ρ h (kAndV b ρ q e) e := rfl
def kOrV (b : WE) (ρ : En) (q : QV) (e : QX) : QV := fun x h => match x with | .bl true => q (.bl true) h | .bl false => b ρ h q e | _ => False
@[simp ↓] theorem kOrV_s {b : WE} {c : Bool} : kOrV b ρ q e (.bl c) h = (if c = true then q (.bl true) h else b ρ h q e) := by cases c <;> rfl
@[simp ↓] theorem wOrV_s {a b : WE} : wOrV a b ρ h q e = a ρ h (kOrV b ρ q e) e := rfl
def kNotV (q : QV) : QV := fun x h => match x with | .bl b => q (.bl (!b)) h | _ => False
@[simp ↓] theorem kNotV_s {b : Bool} : kNotV q (.bl b) h = q (.bl (!b)) h := rfl
@[simp ↓] theorem wNotV_s {w : WE} : wNotV w ρ h q e = w ρ h (kNotV q) e := rfl
def kIf (a b : WE) (ρ : En) (q : QV) (e : QX) : Bool → MH → Prop := fun c h => match c with | true => a ρ h q e | false => b ρ h q e
@[simp ↓] theorem kIf_s {a b : WE} {c : Bool} : kIf a b ρ q e c h = (if c = true then a ρ h q e else b ρ h q e) := by cases c <;> rfl
@[simp ↓] theorem wIf_s {t : WT} {a b : WE} : wIf t a b ρ h q e = t ρ h (kIf a b ρ q e) e := rfl
def kCall (Φ : Spec) (q : QV) (e : QX) : List MV → MH → Prop := fun xs h => Φ xs h q e
@[simp ↓] theorem kCall_s {Φ : Spec} {xs : List MV} : kCall Φ q e xs h = Φ xs h q e := rfl
@[simp ↓] theorem wCall_s {Φ : Spec} {a : WA} : wCall Φ a ρ h q e = a ρ h (kCall Φ q e) e := rfl
@[simp ↓] theorem wDrop_s {w : WE} : wDrop w ρ h q e = w ρ h (QV.wk q) e := rfl
def kMeth3 (Φ : Spec) (x : MV) (q : QV) (e : QX) : List MV → MH → Prop := fun xs h => Φ (x :: xs) h q e
@[simp ↓] theorem kMeth3_s {Φ : Spec} {x : MV} {xs : List MV} : kMeth3 Φ x q e xs h = Φ (x :: xs) h q e := rfl
def kMeth2 (C : Addr) (m : Str) (Φ : Spec) (a : WA) (x : MV) (h : MH) (ρ : En) (q : QV) (e : QX) : Addr → List (Str × MV) → Prop := fun C2 fs => C2 = C ∧ fs.lookup m = none ∧ a ρ h (kMeth3 Φ x q e) e
@[simp ↓] theorem kMeth2_s {C C2 : Addr} {m : Str} {Φ : Spec} {a : WA} {x : MV} {fs : List (Str × MV)} : kMeth2 C m Φ a x h ρ q e C2 fs = (C2 = C ∧ fs.lookup m = none ∧ a ρ h (kMeth3 Φ x q e) e) := rfl
def kMeth1 (C : Addr) (m : Str) (Φ : Spec) (a : WA) (ρ : En) (q : QV) (e : QX) : QV := fun x h => insK h x (kMeth2 C m Φ a x h ρ q e)
@[simp ↓] theorem kMeth1_s {C : Addr} {m : Str} {Φ : Spec} {a : WA} {x : MV} : kMeth1 C m Φ a ρ q e x h = insK h x (kMeth2 C m Φ a x h ρ q e) := rfl
@[simp ↓] theorem wMeth_s {C : Addr} {m : Str} {Φ : Spec} {o : WE} {a : WA} : wMeth C m Φ o a ρ h q e = o ρ h (kMeth1 C m Φ a ρ q e) e := by
  unfold wMeth
  congr 1
  funext x h2
  exact insK_eq
def lookK (f : Str) (k : MV → Prop) : List (Str × MV) → Prop
  | [] => False
  | (g, v) :: r => if g = f then k v else lookK f k r
@[simp ↓] theorem lookK_s {f g : Str} {k : MV → Prop} {v : MV} {r : List (Str × MV)} : lookK f k ((g, v) :: r) = (if g = f then k v else lookK f k r) := rfl
theorem lookK_eq {f : Str} {k : MV → Prop} : ∀ fs : List (Str × MV), (∃ v, fs.lookup f = some v ∧ k v) = lookK f k fs
  | [] => propext ⟨fun ⟨_, z, _⟩ => (by cases z), fun z => z.elim⟩
  | (g, v) :: r => by
    unfold lookK
    by_cases e : g = f
    · subst e
      rw [if_pos rfl]
      exact propext ⟨fun ⟨v', z, k⟩ => by rw [List.lookup_cons_self] at z; cases z; exact k, fun z => ⟨v, List.lookup_cons_self, z⟩⟩
    · rw [if_neg e, ← lookK_eq r]
      have : (f == g) = false := beq_false_of_ne (Ne.symm e)
      rw [List.lookup_cons, this]
def kFld3 (q : QV) (h : MH) : MV → Prop := fun v => q v h
@[simp ↓] theorem kFld3_s {v : MV} : kFld3 q h v = q v h := rfl
def kFld2 (C : Addr) (f : Str) (h : MH) (q : QV) : Addr → List (Str × MV) → Prop := fun C2 fs => C2 = C ∧ lookK f (kFld3 q h) fs
@[simp ↓] theorem kFld2_s {C C2 : Addr} {f : Str} {fs : List (Str × MV)} : kFld2 C f h q C2 fs = (C2 = C ∧ lookK f (kFld3 q h) fs) := rfl
def kFld1 (C : Addr) (f : Str) (q : QV) : QV := fun x h => insK h x (kFld2 C f h q)
@[simp ↓] theorem kFld1_s {C : Addr} {f : Str} {x : MV} : kFld1 C f q x h = insK h x (kFld2 C f h q) := rfl
@[simp ↓] theorem wFldC_s {C : Addr} {o : WE} {f : Str} : wFldC C o f ρ h q e = o ρ h (kFld1 C f q) e := by
  unfold wFldC
  congr 1
  funext x h2
  have e1 : (∃ fs v, insM h2 x = some (C, fs) ∧ fs.lookup f = some v ∧ q v h2) = (∃ fs, insM h2 x = some (C, fs) ∧ lookK f (kFld3 q h2) fs) := by
    refine congrArg _ (funext fun fs => ?_)
    rw [← lookK_eq]
    exact propext ⟨fun ⟨v, a, b⟩ => ⟨a, v, b⟩, fun ⟨a, v, b⟩ => ⟨v, a, b⟩⟩
  rw [e1]
  exact insK_eq
@[simp ↓] theorem bSub_i {i j : Int} : bSub (.int i) (.int j) h q e = q (.int (i - j)) h := rfl
@[simp ↓] theorem bMod_i {i j : Int} : bMod (.int i) (.int j) h q e = (0 < j ∧ q (.int (i % j)) h) := rfl
@[simp ↓] theorem bDiv_i {i j : Int} : bDiv (.int i) (.int j) h q e = ((0 < j ∧ j < 1073741824) ∧ q (.int (i / j)) h) := rfl
@[simp ↓] theorem bPow_i {i j : Int} : bPow (.int i) (.int j) h q e = (CPow i j ∧ q (.int (i ^ j.toNat)) h) := rfl
@[simp ↓] theorem bMul_i {i j : Int} : bMul (.int i) (.int j) h q e = (CMulX i j ∧ q (.int (i * j)) h) := rfl
@[simp ↓] theorem bAdd_i {i j : Int} : bAdd (.int i) (.int j) h q e = q (.int (i + j)) h := rfl
@[simp ↓] theorem bLt_i {i j : Int} : bLt (.int i) (.int j) h q e = q (.bl (decide (i < j))) h := rfl
@[simp ↓] theorem bLe_i {i j : Int} : bLe (.int i) (.int j) h q e = q (.bl (decide (i ≤ j))) h := rfl
@[simp ↓] theorem bGt_i {i j : Int} : bGt (.int i) (.int j) h q e = q (.bl (decide (j < i))) h := rfl
@[simp ↓] theorem bGe_i {i j : Int} : bGe (.int i) (.int j) h q e = q (.bl (decide (j ≤ i))) h := rfl
@[simp ↓] theorem bAdd_s {a b : Str} : bAdd (.str a) (.str b) h q e = (a.length + b.length ≤ sizeLine ∧ q (.str (a ++ b)) h) := rfl
@[simp ↓] theorem bAdd_t {a b : List MV} : bAdd (.tup a) (.tup b) h q e = (a.length + b.length ≤ sizeLine ∧ q (.tup (a ++ b)) h) := rfl
def kCat2 (h : MH) (q : QV) (xs : List MV) : Option MO → Prop := fun o => match o with | some (.lst ys) => xs.length + ys.length ≤ sizeLine ∧ newL h (.lst (xs ++ ys)) q | _ => False
@[simp ↓] theorem kCat2_s {xs ys : List MV} : kCat2 h q xs (some (.lst ys)) = (xs.length + ys.length ≤ sizeLine ∧ newL h (.lst (xs ++ ys)) q) := rfl
def kCat1 (h : MH) (q : QV) (b : Addr) : Option MO → Prop := fun o => match o with | some (.lst xs) => atK h b (kCat2 h q xs) | _ => False
@[simp ↓] theorem kCat1_s {b : Addr} {xs : List MV} : kCat1 h q b (some (.lst xs)) = atK h b (kCat2 h q xs) := rfl
@[simp ↓] theorem bAdd_l {a b : Addr} : bAdd (.ref a) (.ref b) h q e = atK h a (kCat1 h q b) := by
  show (∃ xs ys, h.at_ a = some (.lst xs) ∧ h.at_ b = some (.lst ys) ∧ xs.length + ys.length ≤ sizeLine ∧ ∀ p, h.at_ p = none → q (.ref p) (h.put p (.lst (xs ++ ys)))) = kCat1 h q b (h.at_ a)
  refine propext ⟨fun ⟨xs, ys, e1, e2, l, w⟩ => ?_, fun z => ?_⟩
  · rw [e1]
    show kCat2 h q xs (h.at_ b)
    rw [e2]
    exact ⟨l, w⟩
  · cases e1 : h.at_ a with
    | none => rw [e1] at z; exact z.elim
    | some o =>
      cases o with
      | lst xs =>
        rw [e1] at z
        have z : kCat2 h q xs (h.at_ b) := z
        cases e2 : h.at_ b with
        | none => rw [e2] at z; exact z.elim
        | some o =>
          cases o with
          | lst ys => rw [e2] at z; exact ⟨xs, ys, rfl, rfl, z⟩
          | _ => rw [e2] at z; exact z.elim
      | _ => rw [e1] at z; exact z.elim
@[simp ↓] theorem bEq_i {n : Bool} {i j : Int} : bEqB n (.int i) (.int j) h q e = q (.bl (n ^^ decide (i = j))) h := rfl
@[simp ↓] theorem bEq_s {n : Bool} {i j : Str} : bEqB n (.str i) (.str j) h q e = q (.bl (n ^^ decide (i = j))) h := rfl
/-- x in (a, b, ..) of flat values; enough, not the same -/
theorem bIn_t {n : Bool} {x : MV} {ys : List MV} (f : flatM x = true) (g : ys.all flatM = true) (z : q (.bl (n ^^ ys.any fun y => eqM y x)) h) : bInB n x (.tup ys) h q e := .inl ⟨ys, rfl, f, g, z⟩
theorem bIn_l {n : Bool} {x : MV} {p : Addr} {ys : List MV} (ep : h.at_ p = some (.lst ys)) (f : flatM x = true) (g : ys.all flatM = true) (z : q (.bl (n ^^ ys.any fun y => eqM y x)) h) : bInB n x (.ref p) h q e := .inl ⟨ys, by simp only [seqM]; rw [ep], f, g, z⟩
@[simp ↓] theorem bIn_tt {n : Bool} {x : MV} {ys : List MV} : bInB n x (.tup ys) h q e = ((flatM x = true ∧ ys.all flatM = true) ∧ q (.bl (n ^^ ys.any fun y => eqM y x)) h) := by
  refine propext ⟨fun z => ?_, fun ⟨⟨f, g⟩, z⟩ => bIn_t f g z⟩
  rcases z with ⟨ys', e1, f, g, z⟩ | ⟨_, _, _, z, _⟩ | ⟨_, _, _, _, z, _⟩
  · cases e1; exact ⟨⟨f, g⟩, z⟩
  · cases z
  · cases z
@[simp ↓] theorem bIn_ss {n : Bool} {c : Nat} {z : Str} : bInB n (.str ⟨#[c]⟩) (.str z) h q e = q (.bl (n ^^ decide (c ∈ z.cps.toList))) h :=
  propext ⟨fun ⟨c', e1, z⟩ => by cases e1; exact z, fun z => ⟨c, rfl, z⟩⟩
@[simp ↓] theorem flatM_non : flatM MV.non = true := rfl
@[simp ↓] theorem flatM_bl {a : Bool} : flatM (MV.bl a) = true := rfl
@[simp ↓] theorem flatM_int {a : Int} : flatM (MV.int a) = true := rfl
@[simp ↓] theorem flatM_str {a : Str} : flatM (MV.str a) = true := rfl
@[simp ↓] theorem flatM_ref {a : Addr} : flatM (.ref a) = false := rfl
@[simp ↓] theorem flatM_tup {a : List MV} : flatM (.tup a) = false := rfl
@[simp ↓] theorem eqM_non_non   : eqM MV.non MV.non = true := rfl
@[simp ↓] theorem eqM_non_bl  {b : Bool} : eqM MV.non (MV.bl b) = false := rfl
@[simp ↓] theorem eqM_non_int  {b : Int} : eqM MV.non (MV.int b) = false := rfl
@[simp ↓] theorem eqM_non_str  {b : Str} : eqM MV.non (MV.str b) = false := rfl
@[simp ↓] theorem eqM_bl_non {a : Bool}  : eqM (MV.bl a) MV.non = false := rfl
@[simp ↓] theorem eqM_bl_bl {a : Bool} {b : Bool} : eqM (MV.bl a) (MV.bl b) = (a == b) := rfl
@[simp ↓] theorem eqM_bl_int {a : Bool} {b : Int} : eqM (MV.bl a) (MV.int b) = ((if a then 1 else 0) == b) := rfl
@[simp ↓] theorem eqM_bl_str {a : Bool} {b : Str} : eqM (MV.bl a) (MV.str b) = false := rfl
@[simp ↓] theorem eqM_int_non {a : Int}  : eqM (MV.int a) MV.non = false := rfl
@[simp ↓] theorem eqM_int_bl {a : Int} {b : Bool} : eqM (MV.int a) (MV.bl b) = (a == (if b then 1 else 0)) := rfl
@[simp ↓] theorem eqM_int_int {a : Int} {b : Int} : eqM (MV.int a) (MV.int b) = (a == b) := rfl
@[simp ↓] theorem eqM_int_str {a : Int} {b : Str} : eqM (MV.int a) (MV.str b) = false := rfl
@[simp ↓] theorem eqM_str_non {a : Str}  : eqM (MV.str a) MV.non = false := rfl
@[simp ↓] theorem eqM_str_bl {a : Str} {b : Bool} : eqM (MV.str a) (MV.bl b) = false := rfl
@[simp ↓] theorem eqM_str_int {a : Str} {b : Int} : eqM (MV.str a) (MV.int b) = false := rfl
@[simp ↓] theorem eqM_str_str {a : Str} {b : Str} : eqM (MV.str a) (MV.str b) = (a == b) := rfl
@[simp ↓] theorem typM_non : typM h .non = some (.type "NoneType") := rfl
@[simp ↓] theorem typM_bl {a : Bool} : typM h (.bl a) = some (.type "bool") := rfl
@[simp ↓] theorem typM_int {a : Int} : typM h (.int a) = some (.type "int") := rfl
@[simp ↓] theorem typM_str {a : Str} : typM h (.str a) = some (.type "str") := rfl
@[simp ↓] theorem typM_tup {a : List MV} : typM h (.tup a) = some (.type "tuple") := rfl
@[simp ↓] theorem typM_lis {a : List MV} : typM h (.lis a) = some (.type "list") := rfl
@[simp ↓] theorem clsM_ty {n : String} : clsM (.ty n) = some (.type n) := rfl
@[simp ↓] theorem clsM_ref {C : Addr} : clsM (.ref C) = some (.ref C) := rfl
def typK (h : MH) (x : MV) (k : Value → Prop) : Prop := match typM h x with | some t => k t | none => False
def typO (k : Value → Prop) : Option MO → Prop
  | some (.lst _) => k (.type "list")
  | some (.dK _) => k (.type "dict")
  | some (.dT _) => k (.type "dict")
  | some (.ins C _) => k (.ref C)
  | some (.lk _ _) => False
  | none => False
@[simp ↓] theorem typO_l {k : Value → Prop} {xs : List MV} : typO k (some (.lst xs)) = k (.type "list") := rfl
@[simp ↓] theorem typO_d {k : Value → Prop} {xs : List (Key × MV)} : typO k (some (.dK xs)) = k (.type "dict") := rfl
@[simp ↓] theorem typO_i {k : Value → Prop} {C : Addr} {fs : List (Str × MV)} : typO k (some (.ins C fs)) = k (.ref C) := rfl
@[simp ↓] theorem typK_ref {k : Value → Prop} {p : Addr} : typK h (.ref p) k = atK h p (typO k) := by
  unfold typK atK
  simp only [typM]
  cases h.at_ p with
  | none => rfl
  | some o => cases o <;> rfl
@[simp ↓] theorem typK_obj {k : Value → Prop} {C : Addr} {ns : List Str} {xs : List MV} : typK h (.obj C ns xs) k = k (.ref C) := rfl
@[simp ↓] theorem typK_non {k : Value → Prop} : typK h .non k = k (.type "NoneType") := rfl
@[simp ↓] theorem typK_bl {a : Bool} {k : Value → Prop} : typK h (.bl a) k = k (.type "bool") := rfl
@[simp ↓] theorem typK_int {a : Int} {k : Value → Prop} : typK h (.int a) k = k (.type "int") := rfl
@[simp ↓] theorem typK_str {a : Str} {k : Value → Prop} : typK h (.str a) k = k (.type "str") := rfl
@[simp ↓] theorem typK_tup {a : List MV} {k : Value → Prop} : typK h (.tup a) k = k (.type "tuple") := rfl
@[simp ↓] theorem typK_lis {a : List MV} {k : Value → Prop} : typK h (.lis a) k = k (.type "list") := rfl
def kIsi1 (own : List Addr) (c : MV) (h : MH) (q : QV) : Value → Prop := fun t => match clsM c with | some k => (match isiT own t k with | some b => q (.bl b) h | none => False) | none => False
def kIsiT (own : List Addr) (cs : List MV) (h : MH) (q : QV) : Value → Prop := fun t => cs ≠ [] ∧ match cs.mapM clsM with | some ks => (match ks.mapM (isiT own t) with | some b => q (.bl (b.any id)) h | none => False) | none => False
def isB (a b : String) : Bool := a == b || (a == "bool" && b == "int")
@[simp ↓] theorem kIsi1_tt {own : List Addr} {a b : String} : kIsi1 own (.ty b) h q (.type a) = ((a ∈ names7 ∧ b ∈ names5) ∧ q (.bl (isB a b)) h) := by
  unfold kIsi1
  simp only [clsM, isiT]
  by_cases e : a ∈ names7 ∧ b ∈ names5
  · rw [if_pos e]; exact propext ⟨fun z => ⟨e, z⟩, fun z => z.2⟩
  · rw [if_neg e]; exact propext ⟨fun z => z.elim, fun z => e z.1⟩
@[simp ↓] theorem kIsi1_tr {own : List Addr} {a : String} {C : Addr} : kIsi1 own (.ref C) h q (.type a) = ((a ∈ names7 ∧ C ∈ own) ∧ q (.bl false) h) := by
  unfold kIsi1
  simp only [clsM, isiT]
  by_cases e : a ∈ names7 ∧ C ∈ own
  · rw [if_pos e]; exact propext ⟨fun z => ⟨e, z⟩, fun z => z.2⟩
  · rw [if_neg e]; exact propext ⟨fun z => z.elim, fun z => e z.1⟩
@[simp ↓] theorem kIsi1_rt {own : List Addr} {b : String} {C : Addr} : kIsi1 own (.ty b) h q (.ref C) = ((C ∈ own ∧ b ∈ names5) ∧ q (.bl false) h) := by
  unfold kIsi1
  simp only [clsM, isiT]
  by_cases e : C ∈ own ∧ b ∈ names5
  · rw [if_pos e]; exact propext ⟨fun z => ⟨e, z⟩, fun z => z.2⟩
  · rw [if_neg e]; exact propext ⟨fun z => z.elim, fun z => e z.1⟩
@[simp ↓] theorem kIsi1_rr {own : List Addr} {C D : Addr} : kIsi1 own (.ref D) h q (.ref C) = ((C ∈ own ∧ D ∈ own) ∧ q (.bl (C == D)) h) := by
  unfold kIsi1
  simp only [clsM, isiT]
  by_cases e : C ∈ own ∧ D ∈ own
  · rw [if_pos e]; exact propext ⟨fun z => ⟨e, z⟩, fun z => z.2⟩
  · rw [if_neg e]; exact propext ⟨fun z => z.elim, fun z => e z.1⟩
theorem isi_eq1 {own : List Addr} {x c : MV} (n : ∀ cs, c ≠ .tup cs) : spIsi (isiT own) [x, c] h q e = typK h x (kIsi1 own c h q) := by
  have e1 : spIsi (isiT own) [x, c] h q e = ∃ t k b, typM h x = some t ∧ clsM c = some k ∧ isiT own t k = some b ∧ q (.bl b) h := by
    cases c with
    | tup cs => exact absurd rfl (n cs)
    | _ => rfl
  rw [e1]
  unfold typK kIsi1
  refine propext ⟨fun ⟨t, k, b, z1, z2, z3, z4⟩ => ?_, fun z => ?_⟩
  · rw [z1]; simp only; rw [z2]; simp only; rw [z3]; exact z4
  · split at z
    · split at z
      · split at z
        · exact ⟨_, _, _, by assumption, by assumption, by assumption, z⟩
        · exact z.elim
      · exact z.elim
    · exact z.elim
@[simp ↓] theorem spIsi_ty {own : List Addr} {x : MV} {n : String} : spIsi (isiT own) [x, .ty n] h q e = typK h x (kIsi1 own (.ty n) h q) := isi_eq1 fun _ z => nomatch z
@[simp ↓] theorem spIsi_ref {own : List Addr} {x : MV} {C : Addr} : spIsi (isiT own) [x, .ref C] h q e = typK h x (kIsi1 own (.ref C) h q) := isi_eq1 fun _ z => nomatch z
@[simp ↓] theorem spIsi_tup {own : List Addr} {x : MV} {cs : List MV} : spIsi (isiT own) [x, .tup cs] h q e = typK h x (kIsiT own cs h q) := by
  have e1 : spIsi (isiT own) [x, .tup cs] h q e = (cs ≠ [] ∧ ∃ t ks b, typM h x = some t ∧ cs.mapM clsM = some ks ∧ ks.mapM (isiT own t) = some b ∧ q (.bl (b.any id)) h) := rfl
  rw [e1]
  unfold typK kIsiT
  refine propext ⟨fun ⟨nn, t, k, b, z1, z2, z3, z4⟩ => ?_, fun z => ?_⟩
  · rw [z1]; simp only; refine ⟨nn, ?_⟩; rw [z2]; simp only; rw [z3]; exact z4
  · split at z
    · obtain ⟨nn, z⟩ := z
      split at z
      · split at z
        · exact ⟨nn, _, _, _, by assumption, by assumption, by assumption, z⟩
        · exact z.elim
      · exact z.elim
    · exact z.elim
@[simp ↓] theorem kIsiT_2 {own : List Addr} {a b c : String} : kIsiT own [.ty b, .ty c] h q (.type a) = ((a ∈ names7 ∧ b ∈ names5 ∧ c ∈ names5) ∧ q (.bl (isB a b || isB a c)) h) := by
  unfold kIsiT
  simp only [clsM, isiT, List.mapM_cons, List.mapM_nil]
  by_cases e1 : a ∈ names7 <;> by_cases e2 : b ∈ names5 <;> by_cases e3 : c ∈ names5 <;> simp [e1, e2, e3, isB, isiT]
@[simp ↓] theorem kIsiT_2r {own : List Addr} {C : Addr} {b c : String} : kIsiT own [.ty b, .ty c] h q (.ref C) = ((C ∈ own ∧ b ∈ names5 ∧ c ∈ names5) ∧ q (.bl false) h) := by
  unfold kIsiT
  simp only [clsM, isiT, List.mapM_cons, List.mapM_nil]
  by_cases e1 : C ∈ own <;> by_cases e2 : b ∈ names5 <;> by_cases e3 : c ∈ names5 <;> simp [e1, e2, e3, isiT]
@[simp ↓] theorem spLen_str {z : Str} : spLen [.str z] h q e = (z.length ≤ sizeLine ∧ q (.int z.length) h) := rfl
@[simp ↓] theorem spLen_tup {xs : List MV} : spLen [.tup xs] h q e = q (.int xs.length) h := propext ⟨fun ⟨_, z, k⟩ => by cases z; exact k, fun k => ⟨xs, rfl, k⟩⟩
@[simp ↓] theorem spLen_lis {xs : List MV} : spLen [.lis xs] h q e = q (.int xs.length) h := propext ⟨fun ⟨_, z, k⟩ => by cases z; exact k, fun k => ⟨xs, rfl, k⟩⟩
/-- a value's items -/
def seqK (h : MH) (x : MV) (k : List MV → Prop) : Prop := match seqM h x with | some xs => k xs | none => False
def seqO (k : List MV → Prop) : Option MO → Prop
  | some (.lst xs) => k xs
  | _ => False
@[simp ↓] theorem seqO_s {k : List MV → Prop} {xs : List MV} : seqO k (some (.lst xs)) = k xs := rfl
@[simp ↓] theorem seqK_tup {k : List MV → Prop} {xs : List MV} : seqK h (.tup xs) k = k xs := rfl
@[simp ↓] theorem seqK_lis {k : List MV → Prop} {xs : List MV} : seqK h (.lis xs) k = k xs := rfl
@[simp ↓] theorem seqK_ref {k : List MV → Prop} {p : Addr} : seqK h (.ref p) k = atK h p (seqO k) := by
  unfold seqK atK
  simp only [seqM]
  cases h.at_ p with
  | none => rfl
  | some o => cases o <;> rfl
theorem seqK_eq {x : MV} {k : List MV → Prop} : (∃ xs, seqM h x = some xs ∧ k xs) = seqK h x k := by
  unfold seqK
  refine propext ⟨fun ⟨xs, z, w⟩ => by rw [z]; exact w, fun z => ?_⟩
  split at z
  · exact ⟨_, by assumption, z⟩
  · exact z.elim
def kLenS (h : MH) (q : QV) : List MV → Prop := fun xs => q (.int xs.length) h
@[simp ↓] theorem kLenS_s {xs : List MV} : kLenS h q xs = q (.int xs.length) h := rfl
@[simp ↓] theorem spLen_ref {p : Addr} : spLen [.ref p] h q e = atK h p (seqO (kLenS h q)) := by
  rw [← seqK_ref, ← seqK_eq]; rfl
def kTupS (h : MH) (q : QV) : List MV → Prop := fun xs => q (.tup xs) h
@[simp ↓] theorem kTupS_s {xs : List MV} : kTupS h q xs = q (.tup xs) h := rfl
@[simp ↓] theorem spTuple_s {x : MV} : spTuple [x] h q e = seqK h x (kTupS h q) := seqK_eq
def kListS (h : MH) (q : QV) : List MV → Prop := fun xs => newL h (.lst xs) q
@[simp ↓] theorem kListS_s {xs : List MV} : kListS h q xs = newL h (.lst xs) q := rfl
@[simp ↓] theorem spList_s {x : MV} : spList [x] h q e = seqK h x (kListS h q) := seqK_eq
@[simp ↓] theorem spInt_i {i : Int} : spInt [.int i] h q e = q (.int i) h := rfl
@[simp ↓] theorem spInt_b {i : Bool} : spInt [.bl i] h q e = q (.int (if i then 1 else 0)) h := rfl
@[simp ↓] theorem spAbs_i {i : Int} : spAbs [.int i] h q e = q (.int (if i < 0 then -i else i)) h := rfl
@[simp ↓] theorem spStr_i {i : Int} : spStr [.int i] h q e = (i.natAbs.log2 < 1920 ∧ q (.str (toString i)) h) := rfl
def kAllS (h : MH) (q : QV) : Option MO → Prop := fun o => ∃ bs : List Bool, o = some (.lst (bs.map MV.bl)) ∧ q (.bl (bs.all id)) h
def kAnyS (h : MH) (q : QV) : Option MO → Prop := fun o => ∃ bs : List Bool, o = some (.lst (bs.map MV.bl)) ∧ q (.bl (bs.any id)) h
theorem bl_inj : ∀ {as bs : List Bool}, as.map MV.bl = bs.map MV.bl → as = bs
  | [], [], _ => rfl
  | [], _ :: _, e => by cases e
  | _ :: _, [], e => by cases e
  | a :: as, b :: bs, e => by
    have ⟨(h1 : MV.bl a = .bl b), h2⟩ := List.cons.inj e
    rw [MV.bl.inj h1, bl_inj h2]
@[simp ↓] theorem kAllS_s {bs : List Bool} : kAllS h q (some (.lst (bs.map MV.bl))) = q (.bl (bs.all id)) h := propext ⟨fun ⟨bs', z, k⟩ => by
  injection z with z; injection z with z; rw [bl_inj z]; exact k, fun k => ⟨bs, rfl, k⟩⟩
@[simp ↓] theorem kAnyS_s {bs : List Bool} : kAnyS h q (some (.lst (bs.map MV.bl))) = q (.bl (bs.any id)) h := propext ⟨fun ⟨bs', z, k⟩ => by
  injection z with z; injection z with z; rw [bl_inj z]; exact k, fun k => ⟨bs, rfl, k⟩⟩
@[simp ↓] theorem spAll_s {p : Addr} : spAll [.ref p] h q e = atK h p (kAllS h q) := propext ⟨fun ⟨p', bs, z, z2, k⟩ => by cases z; exact ⟨bs, z2, k⟩, fun ⟨bs, z2, k⟩ => ⟨p, bs, rfl, z2, k⟩⟩
@[simp ↓] theorem spAny_s {p : Addr} : spAny [.ref p] h q e = atK h p (kAnyS h q) := propext ⟨fun ⟨p', bs, z, z2, k⟩ => by cases z; exact ⟨bs, z2, k⟩, fun ⟨bs, z2, k⟩ => ⟨p, bs, rfl, z2, k⟩⟩
/-- items -/
def atIK {α : Type} (xs : List α) (i : Int) (k : α → Prop) : Prop := match atI xs i with | some v => k v | none => False
theorem atIK_eq {α : Type} {xs : List α} {i : Int} {k : α → Prop} : (∃ v, atI xs i = some v ∧ k v) = atIK xs i k := by
  unfold atIK
  refine propext ⟨fun ⟨xs, z, w⟩ => by rw [z]; exact w, fun z => ?_⟩
  split at z
  · exact ⟨_, by assumption, z⟩
  · exact z.elim
theorem atI_at {α : Type} {xs : List α} {i : Nat} {v : α} (e : xs[i]? = some v) (k : α → Prop) : atIK xs (i : Int) k = k v := by
  unfold atIK
  rw [atI_nat e]
@[simp ↓] theorem atIK_0 {α : Type} {x : α} {r : List α} {k : α → Prop} : atIK (x :: r) 0 k = k x := atI_at (i := 0) rfl k
@[simp ↓] theorem atIK_1 {α : Type} {x a : α} {r : List α} {k : α → Prop} : atIK (a :: x :: r) 1 k = k x := atI_at (i := 1) rfl k
@[simp ↓] theorem atIK_2 {α : Type} {x a b : α} {r : List α} {k : α → Prop} : atIK (a :: b :: x :: r) 2 k = k x := atI_at (i := 2) rfl k
@[simp ↓] theorem atIK_3 {α : Type} {x a b c : α} {r : List α} {k : α → Prop} : atIK (a :: b :: c :: x :: r) 3 k = k x := atI_at (i := 3) rfl k
def kIx2 (h : MH) (q : QV) : MV → Prop := fun v => q v h
@[simp ↓] theorem kIx2_s {v : MV} : kIx2 h q v = q v h := rfl
def kIx (i : Int) (h : MH) (q : QV) : List MV → Prop := fun xs => atIK xs i (kIx2 h q)
@[simp ↓] theorem kIx_s {i : Int} {xs : List MV} : kIx i h q xs = atIK xs i (kIx2 h q) := rfl
theorem ix_e {x : MV} {i : Int} : (∃ xs v, seqM h x = some xs ∧ atI xs i = some v ∧ q v h) = seqK h x (kIx i h q) := by
  rw [← seqK_eq]
  refine propext ⟨fun ⟨xs, v, a, b, c⟩ => ⟨xs, a, ?_⟩, fun ⟨xs, a, b⟩ => ?_⟩
  · show atIK xs i (kIx2 h q)
    rw [← atIK_eq]
    exact ⟨v, b, c⟩
  · have b : atIK xs i (kIx2 h q) := b
    rw [← atIK_eq] at b
    obtain ⟨v, b, c⟩ := b
    exact ⟨xs, v, a, b, c⟩
@[simp ↓] theorem bIx_tup {xs : List MV} {i : Int} : bIx (.tup xs) (.int i) h q e = atIK xs i (kIx2 h q) := ix_e
@[simp ↓] theorem bIx_lis {xs : List MV} {i : Int} : bIx (.lis xs) (.int i) h q e = atIK xs i (kIx2 h q) := ix_e
@[simp ↓] theorem bIx_ref {p : Addr} {i : Int} : bIx (.ref p) (.int i) h q e = atK h p (seqO (kIx i h q)) := by rw [← seqK_ref]; exact ix_e
def kIxS (h : MH) (q : QV) : Nat → Prop := fun c => q (.str ⟨#[c]⟩) h
@[simp ↓] theorem kIxS_s {c : Nat} : kIxS h q c = q (.str ⟨#[c]⟩) h := rfl
@[simp ↓] theorem bIx_str {z : Str} {i : Int} : bIx (.str z) (.int i) h q e = (z.length ≤ sizeLine ∧ atIK z.cps.toList i (kIxS h q)) := by
  rw [← atIK_eq]
  exact propext ⟨fun ⟨c, a, b, k⟩ => ⟨a, c, b, k⟩, fun ⟨a, c, b, k⟩ => ⟨c, a, b, k⟩⟩
@[simp ↓] theorem oNone_s {q : Option Int → MH → Prop} : oNone ρ h q e = q none h := rfl
def kOSome (q : Option Int → MH → Prop) : QV := fun x h => match x with | .int i => q (some i) h | _ => False
@[simp ↓] theorem kOSome_s {i : Int} {q : Option Int → MH → Prop} : kOSome q (.int i) h = q (some i) h := rfl
@[simp ↓] theorem oSome_s {w : WE} {q : Option Int → MH → Prop} : oSome w ρ h q e = w ρ h (kOSome q) e := rfl
def kSl3 (x : MV) (l : Option Int) (q : QV) : Option Int → MH → Prop := fun u h => cutOf x l u h q
@[simp ↓] theorem kSl3_s {x : MV} {l u : Option Int} : kSl3 x l q u h = cutOf x l u h q := rfl
def kSl2 (hi : WO) (ρ : En) (x : MV) (q : QV) (e : QX) : Option Int → MH → Prop := fun l h => hi ρ h (kSl3 x l q) e
@[simp ↓] theorem kSl2_s {hi : WO} {x : MV} {l : Option Int} : kSl2 hi ρ x q e l h = hi ρ h (kSl3 x l q) e := rfl
def kSl1 (lo hi : WO) (ρ : En) (q : QV) (e : QX) : QV := fun x h => lo ρ h (kSl2 hi ρ x q e) e
@[simp ↓] theorem kSl1_s {lo hi : WO} {x : MV} : kSl1 lo hi ρ q e x h = lo ρ h (kSl2 hi ρ x q e) e := rfl
@[simp ↓] theorem wSlice_s {w : WE} {lo hi : WO} : wSlice w lo hi ρ h q e = w ρ h (kSl1 lo hi ρ q e) e := rfl
@[simp ↓] theorem cutOf_str {z : Str} {l u : Option Int} : cutOf (.str z) l u h q = (z.length ≤ sizeLine ∧ q (.str (cutS z l u)) h) := rfl
@[simp ↓] theorem cutOf_tup {z : List MV} {l u : Option Int} : cutOf (.tup z) l u h q = q (.tup (cutM z l u)) h := rfl
def kCutL (l u : Option Int) (h : MH) (q : QV) : List MV → Prop := fun xs => newL h (.lst (cutM xs l u)) q
@[simp ↓] theorem kCutL_s {l u : Option Int} {xs : List MV} : kCutL l u h q xs = newL h (.lst (cutM xs l u)) q := rfl
@[simp ↓] theorem cutOf_ref {p : Addr} {l u : Option Int} : cutOf (.ref p) l u h q = atK h p (seqO (kCutL l u h q)) := by
  rw [← seqK_ref, ← seqK_eq]; rfl
@[simp ↓] theorem cutOf_lis {z : List MV} {l u : Option Int} : cutOf (.lis z) l u h q = newL h (.lst (cutM z l u)) q := propext ⟨fun ⟨_, a, b⟩ => by cases a; exact b, fun b => ⟨z, rfl, b⟩⟩
@[simp] theorem cutM_1 {x : MV} {xs : List MV} : cutM (x :: xs) (some 1) none = xs := by
  unfold cutM
  simp only [HT.sIx, List.length_cons]
  have : min (1 : Int).toNat (xs.length + 1) = 1 := by simp
  rw [if_neg (by omega), this]
  simp
theorem cutM_len {xs : List MV} {l u : Option Int} : (cutM xs l u).length ≤ xs.length := by
  unfold cutM
  simp only [List.length_take, List.length_drop]
  omega
def kGet (y : MV) (h : MH) (q : QV) : Option MO → Prop := fun o => match o with | some (.dK kvs) => (match keyM y with | some k => (match valM kvs k with | some v => q v h | none => False) | none => False) | _ => False
@[simp ↓] theorem bGet_s {p : Addr} {y : MV} : bGet (.ref p) y h q e = atK h p (kGet y h q) := by
  show (∃ kvs k v, h.at_ p = some (.dK kvs) ∧ keyM y = some k ∧ valM kvs k = some v ∧ q v h) = kGet y h q (h.at_ p)
  refine propext ⟨fun ⟨kvs, k, v, a, b, c, d⟩ => ?_, fun z => ?_⟩
  · unfold kGet; rw [a]; simp only; rw [b]; simp only; rw [c]; exact d
  · unfold kGet at z
    split at z
    · split at z
      · split at z
        · exact ⟨_, _, _, by assumption, by assumption, by assumption, z⟩
        · exact z.elim
      · exact z.elim
    · exact z.elim
theorem wFor_s {wi : WI} {g : WG} {b : WS} : wFor wi g b ρ h d = wi ρ h (fun it h1 => loopM g b it.stay it.items ρ h1 d) (exAt d ρ) := rfl
def kFor (g : WG) (b : WS) (ρ : En) (d : MD) : ItM → MH → Prop := fun it h => loopM g b it.stay it.items ρ h d
@[simp ↓] theorem wFor_k {wi : WI} {g : WG} {b : WS} : wFor wi g b ρ h d = wi ρ h (kFor g b ρ d) (exAt d ρ) := rfl
theorem kFor_s {g : WG} {b : WS} {it : ItM} : kFor g b ρ d it h = loopM g b it.stay it.items ρ h d := rfl
def kSeqI (q : ItM → MH → Prop) : QV := fun v h => seqK h v (fun items => q ⟨items, fun h2 => seqM h2 v = some items⟩ h)
@[simp ↓] theorem kSeqI_tup {q : ItM → MH → Prop} {xs : List MV} : kSeqI q (.tup xs) h = q ⟨xs, fun h2 => seqM h2 (.tup xs) = some xs⟩ h := rfl
def kSeqI2 (p : Addr) (h : MH) (q : ItM → MH → Prop) : List MV → Prop := fun items => q ⟨items, fun h2 => seqM h2 (.ref p) = some items⟩ h
@[simp ↓] theorem kSeqI2_s {p : Addr} {items : List MV} {q : ItM → MH → Prop} : kSeqI2 p h q items = q ⟨items, fun h2 => seqM h2 (.ref p) = some items⟩ h := rfl
@[simp ↓] theorem kSeqI_ref {q : ItM → MH → Prop} {p : Addr} : kSeqI q (.ref p) h = atK h p (seqO (kSeqI2 p h q)) := by
  show seqK h (.ref p) _ = _
  rw [seqK_ref]; rfl
@[simp ↓] theorem kSeqI_lis {q : ItM → MH → Prop} {xs : List MV} : kSeqI q (.lis xs) h = q ⟨xs, fun h2 => seqM h2 (.lis xs) = some xs⟩ h := rfl
@[simp ↓] theorem wSeqI_s {w : WE} {q : ItM → MH → Prop} : wSeqI w ρ h q e = w ρ h (kSeqI q) e := rfl
def kRng1 (q : ItM → MH → Prop) : List MV → MH → Prop := fun xs h => match xs with
  | [.int j] => -(2 ^ 62) ≤ j ∧ j < 2 ^ 62 ∧ q ⟨(List.range j.toNat).map fun i => .int (0 + (i : Nat)), fun _ => True⟩ h
  | _ => False
@[simp ↓] theorem wRange1_s {a : WA} {q : ItM → MH → Prop} : wRange1 a ρ h q e = a ρ h (kRng1 q) e := rfl
@[simp ↓] theorem kRng1_s {j : Int} {q : ItM → MH → Prop} : kRng1 q [.int j] h = (-(2 ^ 62) ≤ j ∧ j < 2 ^ 62 ∧ q ⟨(List.range j.toNat).map fun i => .int (0 + (i : Nat)), fun _ => True⟩ h) := rfl
def kBM2 (Φ : MSpec) (x : MV) (q : QV) (e : QX) : List MV → MH → Prop := fun xs h => Φ x xs h q e
@[simp ↓] theorem kBM2_s {Φ : MSpec} {x : MV} {xs : List MV} : kBM2 Φ x q e xs h = Φ x xs h q e := rfl
def kBM (Ty : MV → MH → Prop) (Φ : MSpec) (a : WA) (ρ : En) (q : QV) (e : QX) : QV := fun x h => Ty x h ∧ a ρ h (kBM2 Φ x q e) e
@[simp ↓] theorem kBM_s {Ty : MV → MH → Prop} {Φ : MSpec} {a : WA} {x : MV} : kBM Ty Φ a ρ q e x h = (Ty x h ∧ a ρ h (kBM2 Φ x q e) e) := rfl
@[simp ↓] theorem wBM_s {Ty : MV → MH → Prop} {Φ : MSpec} {o : WE} {a : WA} : wBM Ty Φ o a ρ h q e = o ρ h (kBM Ty Φ a ρ q e) e := rfl
@[simp ↓] theorem isStr_s {z : Str} : isStr (.str z) h = True := propext ⟨fun _ => trivial, fun _ => ⟨z, rfl⟩⟩
def isLstO : Option MO → Prop
  | some (.lst _) => True
  | _ => False
@[simp ↓] theorem isLstO_s {xs : List MV} : isLstO (some (.lst xs)) = True := rfl
@[simp ↓] theorem isLst_s {p : Addr} : isLst (.ref p) h = atK h p isLstO := by
  unfold atK
  refine propext ⟨fun ⟨p', xs, a, b⟩ => by cases a; rw [b]; trivial, fun z => ?_⟩
  cases e : h.at_ p with
  | none => rw [e] at z; exact z.elim
  | some o =>
    cases o with
    | lst xs => exact ⟨p, xs, rfl, e⟩
    | _ => rw [e] at z; exact z.elim
def kApp (p : Addr) (y : MV) (h : MH) (q : QV) : Option MO → Prop := fun o => match o with | some (.lst xs) => xs.length < sizeLine ∧ q .non (h.put p (.lst (xs ++ [y]))) | _ => False
@[simp ↓] theorem kApp_s {p : Addr} {y : MV} {xs : List MV} : kApp p y h q (some (.lst xs)) = (xs.length < sizeLine ∧ q .non (h.put p (.lst (xs ++ [y])))) := rfl
@[simp ↓] theorem mAppend_s {p : Addr} {y : MV} : mAppend (.ref p) [y] h q e = atK h p (kApp p y h q) := by
  show (∃ xs, h.at_ p = some (.lst xs) ∧ xs.length < sizeLine ∧ q .non (h.put p (.lst (xs ++ [y])))) = kApp p y h q (h.at_ p)
  refine propext ⟨fun ⟨xs, a, b⟩ => by rw [a]; exact b, fun z => ?_⟩
  cases e : h.at_ p with
  | none => rw [e] at z; exact z.elim
  | some o =>
    cases o with
    | lst xs => rw [e] at z; exact ⟨xs, rfl, z⟩
    | _ => rw [e] at z; exact z.elim
@[simp ↓] theorem mSplit_s {a b : Str} : mSplit (.str a) [.str b] h q e = ((b.length == 0) = false ∧ a.length + 2 ≤ sizeLine ∧ newL h (.lst ((Txt.split a b).map MV.str)) q) := rfl
@[simp ↓] theorem put_put {a : Addr} {o o' : MO} : (h.put a o).put a o' = h.put a o' := by
  unfold MH.put
  congr 1
  funext b
  by_cases e : b = a <;> simp [e]
theorem wk_put {p : Addr} {o : MO} {v : MV} (n : h.at_ p = none) (z : QV.wk q v h) : QV.wk q v (h.put p o) := let ⟨h2, l, w⟩ := z; ⟨h2, l.put (l.free n), w⟩
theorem xk_put {p : Addr} {o : MO} {v : MX} (n : h.at_ p = none) (z : QX.wk e v h) : QX.wk e v (h.put p o) := let ⟨h2, l, w⟩ := z; ⟨h2, l.put (l.free n), w⟩
theorem str_inj {a b : String} : (Str.ofString a = Str.ofString b) = (a = b) := by
  refine propext ⟨fun e => ?_, fun e => by rw [e]⟩
  rw [Str.ofString_eq_toList, Str.ofString_eq_toList] at e
  injection e with e
  have e2 : a.toList.map Char.toNat = b.toList.map Char.toNat := by simpa using e
  have e3 : a.toList = b.toList := (List.map_inj_right fun x y (z : x.toNat = y.toNat) => Char.ext (UInt32.toNat_inj.mp z)).mp e2
  exact String.toList_inj.mp e3
end
end MM
end
section
namespace MM
open PySem PySem.Spec PyProof.Rows L2
section
variable {X : Cx} {a b c : Expr} {wa wb wc : WE} {pos : Pos}
/-! ### a < b < c -/
def kCh3 (B' : B2) (c : WE) (ρ : En) (y : MV) (q : QV) (e : QX) : QV := fun z h => match z with | .bl true => c ρ h (kBin2 B' y q e) e | .bl false => q (.bl false) h | _ => False
def kCh2 (B B' : B2) (c : WE) (ρ : En) (x : MV) (q : QV) (e : QX) : QV := fun y h => B x y h (kCh3 B' c ρ y q e) e
def kCh1 (B B' : B2) (b c : WE) (ρ : En) (q : QV) (e : QX) : QV := fun x h => b ρ h (kCh2 B B' c ρ x q e) e
def wChn (B B' : B2) (a b c : WE) : WE := fun ρ h q e => a ρ h (kCh1 B B' b c ρ q e) e
@[simp ↓] theorem wChn_s {B B' : B2} {a b c : WE} {ρ : En} {h : MH} {q : QV} {e : QX} : wChn B B' a b c ρ h q e = a ρ h (kCh1 B B' b c ρ q e) e := rfl
@[simp ↓] theorem kCh1_s {B B' : B2} {b c : WE} {ρ : En} {h : MH} {q : QV} {e : QX} {x : MV} : kCh1 B B' b c ρ q e x h = b ρ h (kCh2 B B' c ρ x q e) e := rfl
@[simp ↓] theorem kCh2_s {B B' : B2} {c : WE} {ρ : En} {h : MH} {q : QV} {e : QX} {x y : MV} : kCh2 B B' c ρ x q e y h = B x y h (kCh3 B' c ρ y q e) e := rfl
@[simp ↓] theorem kCh3_s {B' : B2} {c : WE} {ρ : En} {h : MH} {q : QV} {e : QX} {y : MV} {k : Bool} : kCh3 B' c ρ y q e (.bl k) h = (if k = true then c ρ h (kBin2 B' y q e) e else q (.bl false) h) := by cases k <;> rfl
theorem chain_im {r r' : R2} {B B' : B2} (hB : B2Ok X r B) (hB' : B2Ok X r' B') {σ : L2.St} {H : Hp} {Q : VK} (x : LE X (wChn B B' wa wb wc) σ H Q) : tChain r r' (LE X wa) (LE X wb) (LE X wc) σ H Q := by
  obtain ⟨ρ, h, q, e, sr, hr, tk, w, k⟩ := x
  exact ⟨ρ, h, _, e, sr, hr, tk, w, fun x v h1 H1 t1 r1 v1 w1 => ⟨ρ, h1, _, e, sr.tk t1, r1, tk_mono t1 tk, w1, fun y u h2 H2 t2 r2 v2 w2 =>
    hB x y v u h2 H2 _ e _ r2 (VR.tk t2 x v1) v2 w2 fun z z' h3 H3 t3 r3 v3 w3 => by
      have tt := t1.trans (t2.trans t3)
      cases z with
      | bl c =>
        refine ⟨c, by simpa using v3, ?_⟩
        cases c with
        | true => exact iteT ⟨ρ, h3, _, e, sr.tk tt, r3, tk_mono tt tk, w3, fun m u' h4 H4 t4 r4 v4 w4 => hB' y m u u' h4 H4 q e Q r4 (VR.tk (t3.trans t4) y v2) v4 w4 fun mv v' h' H' t5 r5 v5 q5 => k mv v' h' H' (tt.trans (t4.trans t5)) r5 v5 q5⟩
        | false => exact iteF (k _ _ h3 H3 tt r3 (by simp) w3)
      | _ => exact w3.elim⟩⟩
theorem se_chain {op op' : CmpOp} {r r' : R2} {B B' : B2} (hB : B2Ok X r B) (hB' : B2Ok X r' B') (ho : OpR X (compareOp op) r) (ho' : OpR X (compareOp op') r') (ha : SE X a wa) (hb : SE X b wb) (hc : SE X c wc)
    (hm : lastMarks [op, op'] [b, c] = false := by with_unfolding_all rfl) : SE X (.Compare a [op, op'] [b, c] pos) (wChn B B' wa wb wc) := PE.imp (pe_chain ho ho' ha hb hc hm) fun _ _ _ x => chain_im hB hB' x
theorem st_chain {op op' : CmpOp} {r r' : R2} {B B' : B2} (hB : B2Ok X r B) (hB' : B2Ok X r' B') (ho : OpR X (compareOp op) r) (ho' : OpR X (compareOp op') r') (ha : SE X a wa) (hb : SE X b wb) (hc : SE X c wc)
    (hm : lastMarks [op, op'] [b, c] = false := by with_unfolding_all rfl) : ST X (.Compare a [op, op'] [b, c] pos) (wTB (wChn B B' wa wb wc)) := PT.imp (pt_chain ho ho' ha hb hc hm) fun _ _ _ x => chain_im hB hB' (LT.tb x)
/-! ### is None -/
def isNonM : MV → Bool
  | .non => true
  | _ => false
def bIsB (n : Bool) : B2 := fun x y h q _ => match y with | .non => q (.bl (n ^^ isNonM x)) h | _ => False
abbrev bIs : B2 := bIsB false
abbrev bIsNot : B2 := bIsB true
@[simp ↓] theorem bIs_s {n : Bool} {x : MV} {h : MH} {q : QV} {e : QX} : bIsB n x .non h q e = q (.bl (n ^^ isNonM x)) h := rfl
@[simp] theorem isNonM_non : isNonM .non = true := rfl
@[simp] theorem isNonM_bl {b : Bool} : isNonM (.bl b) = false := rfl
@[simp] theorem isNonM_int {b : Int} : isNonM (.int b) = false := rfl
@[simp] theorem isNonM_str {b : Str} : isNonM (.str b) = false := rfl
@[simp] theorem isNonM_ref {b : Addr} : isNonM (.ref b) = false := rfl
@[simp] theorem isNonM_obj {C : Addr} {ns : List Str} {b : List MV} : isNonM (.obj C ns b) = false := rfl
@[simp] theorem isNonM_lis {b : List MV} : isNonM (.lis b) = false := rfl
@[simp] theorem isNonM_tup {b : List MV} : isNonM (.tup b) = false := rfl
theorem non_ok {K : PySem.W.Frag} {H : Hp} {x : MV} {v : V} (r : VR K H x v) : decide (v = .non) = isNonM x := by
  cases x with
  | tup xs => obtain ⟨p, _, e, _⟩ := VR_tup.mp r; subst e; rfl
  | lis xs => obtain ⟨p, _, e, _⟩ := VR_lis.mp r; subst e; rfl
  | obj C ns xs => obtain ⟨p, _, _, e, _⟩ := VR_obj.mp r; subst e; rfl
  | err a d C ns xs => obtain ⟨_, e, _⟩ := VR_err.mp r; subst e; rfl
  | slc a b c => obtain ⟨_, e, _⟩ := VR_slc.mp r; subst e; rfl
  | key ks => obtain ⟨_, e, _⟩ := VR_key.mp r; subst e; rfl
  | _ => simp at r; subst r; rfl
theorem ok_is : B2Ok X (fun x y H Q => y = .non ∧ Q (.bl (decide (x = .non))) H) bIs := fun x y v u h H q e Q hh rx ry b k => by
  cases y with
  | non => simp at ry; exact ⟨ry, by rw [non_ok rx]; exact k (.bl (isNonM x)) _ h H (TK.refl H) hh (VR_bl.mpr rfl) (by simpa using b)⟩
  | _ => exact b.elim
theorem ok_isNot : B2Ok X (fun x y H Q => y = .non ∧ Q (.bl (!decide (x = .non))) H) bIsNot := fun x y v u h H q e Q hh rx ry b k => by
  cases y with
  | non => simp at ry; exact ⟨ry, by rw [non_ok rx]; exact k (.bl (!isNonM x)) _ h H (TK.refl H) hh (VR_bl.mpr rfl) (by simpa using b)⟩
  | _ => exact b.elim
/-! ### code that is not reached -/
def wNever : WS := fun _ _ _ => False
@[simp ↓] theorem wNever_s {ρ : En} {h : MH} {d : MD} : wNever ρ h d = False := rfl
theorem ss_never {st : Stmt} : SS X st wNever := PS.imp ps_never fun D σ H ⟨_, _, _, _, _, _, w, _⟩ => w
theorem sss_never {st : List Stmt} : SSs X st wNever := PSs.imp pss_never fun D σ H ⟨_, _, _, _, _, _, w, _⟩ => w
/-! ### a, b = x, y -/
def kPar2 (i j : Nat) (ρ : En) (d : MD) : List MV → MH → Prop := fun xs h => match xs with | [x, y] => gmName i x ρ h (fun ρ1 h1 => gmName j y ρ1 h1 (kNx d) (exAt d ρ)) (exAt d ρ) | _ => False
def kPar2b (j : Nat) (y : MV) (ρ0 : En) (d : MD) : En → MH → Prop := fun ρ h => gmName j y ρ h (kNx d) (exAt d ρ0)
@[simp ↓] theorem kPar2b_s {j : Nat} {y : MV} {ρ ρ0 : En} {h : MH} {d : MD} : kPar2b j y ρ0 d ρ h = gmName j y ρ h (kNx d) (exAt d ρ0) := rfl
@[simp ↓] theorem kPar2_s {i j : Nat} {ρ : En} {h : MH} {d : MD} {x y : MV} : kPar2 i j ρ d [x, y] h = gmName i x ρ h (kPar2b j y ρ d) (exAt d ρ) := rfl
def wPar2 (i j : Nat) (a : WA) : WS := fun ρ h d => a ρ h (kPar2 i j ρ d) (exAt d ρ)
@[simp ↓] theorem wPar2_s {i j : Nat} {a : WA} {ρ : En} {h : MH} {d : MD} : wPar2 i j a ρ h d = a ρ h (kPar2 i j ρ d) (exAt d ρ) := rfl
theorem ss_par2 (i j : Nat) {x y : Str} {w : WA} {px py pt : Pos} {kt k2 pt2} (hc : X.calm = true) (hN : X.N.Nodup) (ha : SA X [a, b] w) (hw : swappedStores [.Tuple [.Name x px, .Name y py] kt pt] (.Tuple [a, b] k2 pt2) X.env = pure (some [x, y])) (hi : X.N[i]? = some x := by rfl) (hj : X.N[j]? = some y := by rfl) (hij : i ≠ j := by decide)
    (hx : X.env.scope.names.lookup x = some .local := by rfl)
    (hy : X.env.scope.names.lookup y = some .local := by rfl) (hs : swapsWithSole [.Tuple [.Name x px, .Name y py] kt pt] (.Tuple [a, b] k2 pt2) pos.line X.env = pure false := by rfl) :
    SS X (.Assign [.Tuple [.Name x px, .Name y py] kt pt] (.Tuple [a, b] k2 pt2) pos) (wPar2 i j w) :=
  PS.imp (ps_par hc hN hi hj hij hx hy ha hw hs) fun D σ H ⟨ρ, h, d, sr, hr, tk, w, n, r, b, c⟩ => ⟨ρ, h, _, _, sr, hr, tks_at tk ρ, w, fun xs vs h1 H1 t1 r1 v1 w1 => by
    unfold kPar2 at w1
    split at w1
    · obtain ⟨v, u, e1, q1, q2⟩ := v1.two
      exact ⟨v, u, e1, n _ _ h1 H1 t1 (((sr.tk t1).set q1).set q2) r1 w1⟩
    · exact w1.elim⟩
theorem VRs.three {K : PySem.W.Frag} {H : Hp} {x y z : MV} {vs : List V} (h : VRs K H [x, y, z] vs) : ∃ v u w, vs = [v, u, w] ∧ VR K H x v ∧ VR K H y u ∧ VR K H z w := by
  obtain ⟨v, r, e, a, q⟩ := VRs_cons.mp h
  obtain ⟨u, w, rfl, b, c⟩ := q.two
  subst e
  exact ⟨v, u, w, rfl, a, b, c⟩
def kPar3b (j l : Nat) (y z : MV) (ρ0 : En) (d : MD) : En → MH → Prop := fun ρ h => gmName j y ρ h (kPar2b l z ρ0 d) (exAt d ρ0)
@[simp ↓] theorem kPar3b_s {j l : Nat} {y z : MV} {ρ ρ0 : En} {h : MH} {d : MD} : kPar3b j l y z ρ0 d ρ h = gmName j y ρ h (kPar2b l z ρ0 d) (exAt d ρ0) := rfl
def kPar3 (i j l : Nat) (ρ : En) (d : MD) : List MV → MH → Prop := fun xs h => match xs with | [x, y, z] => gmName i x ρ h (kPar3b j l y z ρ d) (exAt d ρ) | _ => False
@[simp ↓] theorem kPar3_s {i j l : Nat} {ρ : En} {h : MH} {d : MD} {x y z : MV} : kPar3 i j l ρ d [x, y, z] h = gmName i x ρ h (kPar3b j l y z ρ d) (exAt d ρ) := rfl
def wPar3 (i j l : Nat) (a : WA) : WS := fun ρ h d => a ρ h (kPar3 i j l ρ d) (exAt d ρ)
@[simp ↓] theorem wPar3_s {i j l : Nat} {a : WA} {ρ : En} {h : MH} {d : MD} : wPar3 i j l a ρ h d = a ρ h (kPar3 i j l ρ d) (exAt d ρ) := rfl
theorem ss_par3 (i j l : Nat) {x y z : Str} {w : WA} {px py pz pt : Pos} {kt k2 pt2} (hc : X.calm = true) (hN : X.N.Nodup) (ha : SA X [a, b, c] w) (hw : swappedStores [.Tuple [.Name x px, .Name y py, .Name z pz] kt pt] (.Tuple [a, b, c] k2 pt2) X.env = pure (some [x, y, z])) (hi : X.N[i]? = some x := by rfl) (hj : X.N[j]? = some y := by rfl) (hl : X.N[l]? = some z := by rfl) (hij : i ≠ j := by decide) (hil : i ≠ l := by decide) (hjl : j ≠ l := by decide)
    (hx : X.env.scope.names.lookup x = some .local := by rfl) (hy : X.env.scope.names.lookup y = some .local := by rfl) 
    (hz : X.env.scope.names.lookup z = some .local := by rfl) (hs : swapsWithSole [.Tuple [.Name x px, .Name y py, .Name z pz] kt pt] (.Tuple [a, b, c] k2 pt2) pos.line X.env = pure false := by rfl) :
    SS X (.Assign [.Tuple [.Name x px, .Name y py, .Name z pz] kt pt] (.Tuple [a, b, c] k2 pt2) pos) (wPar3 i j l w) :=
  PS.imp (ps_par3 hc hN hi hj hl hij hil hjl hx hy hz ha hw hs) fun D σ H ⟨ρ, h, d, sr, hr, tk, w, n, r, b, c⟩ => ⟨ρ, h, _, _, sr, hr, tks_at tk ρ, w, fun xs vs h1 H1 t1 r1 v1 w1 => by
    unfold kPar3 at w1
    split at w1
    · obtain ⟨v, u, w, e1, q1, q2, q3⟩ := v1.three
      exact ⟨v, u, w, e1, n _ _ h1 H1 t1 ((((sr.tk t1).set q1).set q2).set q3) r1 w1⟩
    · exact w1.elim⟩
/-! ### *xs in a display -/
def kStar2 (xs : List MV) (q : List MV → MH → Prop) : List MV → MH → Prop := fun ys h => q (xs ++ ys) h
@[simp ↓] theorem kStar2_s {xs ys : List MV} {q : List MV → MH → Prop} {h : MH} : kStar2 xs q ys h = q (xs ++ ys) h := rfl
def kStar1 (r : WA) (ρ : En) (h : MH) (q : List MV → MH → Prop) (e : QX) : List MV → Prop := fun xs => r ρ h (kStar2 xs q) e
@[simp ↓] theorem kStar1_s {r : WA} {ρ : En} {h : MH} {q : List MV → MH → Prop} {e : QX} {xs : List MV} : kStar1 r ρ h q e xs = r ρ h (kStar2 xs q) e := rfl
def kStar (r : WA) (ρ : En) (q : List MV → MH → Prop) (e : QX) : QV := fun x h => seqK h x (kStar1 r ρ h q e)
@[simp ↓] theorem kStar_s {r : WA} {ρ : En} {h : MH} {q : List MV → MH → Prop} {e : QX} {x : MV} : kStar r ρ q e x h = seqK h x (kStar1 r ρ h q e) := rfl
def wStar (w : WE) (r : WA) : WA := fun ρ h q e => w ρ h (kStar r ρ q e) e
@[simp ↓] theorem wStar_s {w : WE} {r : WA} {ρ : En} {h : MH} {q : List MV → MH → Prop} {e : QX} : wStar w r ρ h q e = w ρ h (kStar r ρ q e) e := rfl
theorem sa_star {es : List Expr} {p : Pos} {r : WA} (ha : SE X a wa) (hr : SA X es r) (hs : starEach (.Starred a p :: es) X.env = (true, eval a X.env) :: starEach es X.env := by rfl) : SA X (.Starred a p :: es) (wStar wa r) :=
  PA.imp (StX.pa_star ha hr hs) fun σ H Q ⟨ρ, h, q, e, sr, hr, tk, w, k⟩ => ⟨ρ, h, _, e, sr, hr, tk, w, fun x v h1 H1 t1 r1 v1 w1 => by
    have w1 : seqK h1 x (kStar1 r ρ h1 q e) := w1
    rw [← seqK_eq] at w1
    obtain ⟨xs, ex, w1⟩ := w1
    obtain ⟨p, us, e1, sq, rs⟩ := seq_ok r1 v1 ex
    refine ⟨p, us, e1, sq.symm, ρ, h1, _, e, sr.tk t1, r1, tk_mono t1 tk, w1, fun ys vs h2 H2 t2 r2 v2 w2 => ?_⟩
    exact k (xs ++ ys) (us ++ vs) h2 H2 (t1.trans t2) r2 ((rs.tk t2 _).append v2) w2⟩
/-! ### d[k] = v -/
def kPut3 (y : MV) (k : MV) (p : Addr) (h : MH) (ρ : En) (d : MD) : Option MO → Prop := fun o => match o with | some (.dK kvs) => (match keyM k with | some kk => kvs.length < sizeLine ∧ d.nx ρ (h.put p (.dK (putKM kvs kk y))) | none => False) | _ => False
@[simp ↓] theorem kPut3_i {y : MV} {i : Int} {p : Addr} {h : MH} {ρ : En} {d : MD} {kvs : List (Key × MV)} : kPut3 y (.int i) p h ρ d (some (.dK kvs)) = (kvs.length < sizeLine ∧ d.nx ρ (h.put p (.dK (putKM kvs (.inl i) y)))) := rfl
@[simp ↓] theorem kPut3_s {y : MV} {i : Str} {p : Addr} {h : MH} {ρ : En} {d : MD} {kvs : List (Key × MV)} : kPut3 y (.str i) p h ρ d (some (.dK kvs)) = (kvs.length < sizeLine ∧ d.nx ρ (h.put p (.dK (putKM kvs (.inr i) y)))) := rfl
def kPut2 (y x : MV) (ρ : En) (d : MD) : QV := fun k h => match x with | .ref p => atK h p (kPut3 y k p h ρ d) | _ => False
@[simp ↓] theorem kPut2_s {y k : MV} {p : Addr} {ρ : En} {h : MH} {d : MD} : kPut2 y (.ref p) ρ d k h = atK h p (kPut3 y k p h ρ d) := rfl
def kPut1 (i : WE) (y : MV) (ρ : En) (d : MD) : QV := fun x h => i ρ h (kPut2 y x ρ d) (exAt d ρ)
@[simp ↓] theorem kPut1_s {i : WE} {x y : MV} {ρ : En} {h : MH} {d : MD} : kPut1 i y ρ d x h = i ρ h (kPut2 y x ρ d) (exAt d ρ) := rfl
def kPut0 (o i : WE) (ρ : En) (d : MD) : QV := fun y h => o ρ h (kPut1 i y ρ d) (exAt d ρ)
@[simp ↓] theorem kPut0_s {o i : WE} {y : MV} {ρ : En} {h : MH} {d : MD} : kPut0 o i ρ d y h = o ρ h (kPut1 i y ρ d) (exAt d ρ) := rfl
def wPut (o i v : WE) : WS := fun ρ h d => v ρ h (kPut0 o i ρ d) (exAt d ρ)
@[simp ↓] theorem wPut_s {o i v : WE} {ρ : En} {h : MH} {d : MD} : wPut o i v ρ h d = v ρ h (kPut0 o i ρ d) (exAt d ρ) := rfl
theorem ss_put {v : Expr} {wv : WE} {pos' : Pos} (hu : X.A.units + 1 < cLine) (ha : SE X a wa) (hb : SE X b wb) (hv : SE X v wv) (hs : swapsWith v (some (.Subscript a b pos')) pos.line X.env = pure false := by rfl) : SS X (.Assign [.Subscript a b pos'] v pos) (wPut wa wb wv) :=
  PS.imp (ps_dput hu ha hb hv hs) fun D σ H ⟨ρ, h, d, sr, hr, tk, w, n, r, b, c⟩ => ⟨ρ, h, _, _, sr, hr, tks_at tk ρ, w, fun y u h1 H1 t1 r1 v1 w1 => ⟨ρ, h1, _, _, sr.tk t1, r1, tk_mono t1 (tks_at tk ρ), w1, fun x v h2 H2 t2 r2 v2 w2 => ⟨ρ, h2, _, _, sr.tk (t1.trans t2), r2, tk_mono (t1.trans t2) (tks_at tk ρ), w2, fun k kv h3 H3 t3 r3 v3 w3 => by
    have w3 : kPut2 y x ρ d k h3 := w3
    cases x with
    | ref p =>
      simp at v2
      subst v2
      have w3 : atK h3 p (kPut3 y k p h3 ρ d) := w3
      unfold atK at w3
      unfold kPut3 at w3
      split at w3
      · rename_i kvs ep
        split at w3
        · rename_i kk ek
          obtain ⟨gs, g1, gr⟩ := r3.ob p _ ep
          have e4 := key_ok v3 ek
          have hl : gs.length < sizeLine := by
            have := congrArg List.length gr.1
            simp only [List.length_map] at this
            omega
          have t4 : TK H3 (upd H3 p (.dK (putK gs kk u))) := TK.mut g1 (fun z => z)
          refine ⟨p, _, rfl, .inl ⟨gs, kk, g1, e4, hl, rfl⟩, ?_⟩
          have tt := t1.trans (t2.trans (t3.trans t4))
          exact n ρ σ (h3.put p (.dK (putKM kvs kk y))) _ tt (sr.tk tt) (r3.set ep t4 ⟨_, upd_same, (pr_put (VR.tk (t2.trans t3) _ v1) gr).tk t4⟩) w3.2
        · exact w3.elim
      · exact w3.elim
    | _ => exact w3.elim⟩⟩⟩
end
/-! ### within a comprehension's block -/
section
variable {P : Program} {w : World} {K : PySem.W.Frag} {mg : Str → Option Value} {base : Heap} {k : Nat} {X : Cx}
theorem On.blk (o : On P w K mg base k X) {s : Shared} {H : Hp} {scope : Scope} {cenv : PySem.Env} {fp : List Addr} : On P w K mg base k (X.blk s H scope cenv fp) := ⟨o.prog, o.w, o.K, o.mg, o.base, o.room, o.gu⟩
end
end MM
end
section
namespace MM
open PySem PySem.Spec PyProof.Rows L2
/-! ### the end: the law's call, where no repr is under way -/
def E0h : MH := ⟨fun _ => none, none, 0, 0, fun _ _ => rfl⟩
/-- the law's promise: True for every script -/
def lawS (n : Nat) : Spec := fun args h q e => ∃ ns : List Int, args = [.lis (ns.map MV.int)] ∧ h = E0h ∧ ns.length ≤ n ∧ (∀ k ∈ ns, Builtin.Int.intBits k ≤ 1048576) ∧ ∀ h', q (.bl true) h'
theorem VRs.ints {K : PySem.W.Frag} {H : Hp} : ∀ ns : List Int, VRs K H (ns.map MV.int) (ns.map V.int)
  | [] => by simp
  | n :: ns => VRs_cons.mpr ⟨_, _, rfl, by simp, VRs.ints ns⟩
theorem law_callG {P : Program} {w : World} {K : PySem.W.Frag} {mg mb : Str → Option Value} {k n : Nat} {fa a : Addr} {fd : FuncData} {x : Str} {s : Shared} {vs : List Value} {ns : List Int}
    (KX : K.In s.heap) (hns : s.heap.Ns mainGlobals mg) (hb : s.heap.Ns builtinsNs mb) (hbb : ∀ x : Str, x ≠ "__name__" → mb x = bootBuiltins x) (hlim : s.heap.NoLimit) (hg : s.gens = #[])
    (ha : s.heap.get? a = some { cls := .type "list", data := .seq vs.toArray }) (hi : IntsAre vs ns) (hl : ns.length ≤ n) (hn : n ≤ sizeLine) (hbits : ∀ k ∈ ns, Builtin.Int.intBits k ≤ 1048576) (hr : Room k callerA)
    (F : ∀ base : Heap, FnM P w K mg base k fa fd [x] (lawS n)) (hbind : ∀ (s : Shared) (u : Value), BindsTo s fd ⟨[u], []⟩ [(x, u)]) :
    codeAny (model P w) callerA (.call (.ref fa) ⟨[.ref a], []⟩) (fun r s' => r = .ok (.ret (.bool true)) ∧ OldK s.heap s'.heap ∧ s'.os = s.os ∧ AllBare s'.gens) s := by
  have rv := vals_ints hi
  have lenV := hi.length
  -- the script alone may be tracked, where the written part does not hold it
  obtain ⟨H, hH, hF⟩ : ∃ H : Hp, (∀ b u, H b = some u → b = a ∧ K.lookup a = none ∧ u = .frz { cls := .type "list", data := .seq vs.toArray } (.lst (ns.map V.int))) ∧ FzL K H a (ns.map V.int) := by
    cases hk : K.lookup a with
    | some o =>
      have e := KX a o hk
      rw [ha] at e
      cases e
      exact ⟨fun _ => none, fun b u z => absurd z (by simp), .inr (.inr ⟨_, vs.toArray, _, hk, rfl, rfl, rfl, by rw [List.size_toArray, lenV]; exact Nat.le_trans hl hn, by simpa using rv⟩)⟩
    | none =>
      refine ⟨fun b => if b = a then some (.frz { cls := .type "list", data := .seq vs.toArray } (.lst (ns.map V.int))) else none, fun b u z => ?_, .inl ⟨_, if_pos rfl⟩⟩
      by_cases q : b = a
      · have z' : some _ = some u := (if_pos q).symm.trans z
        cases z'
        exact ⟨q, rfl, rfl⟩
      · have z' := (if_neg q).symm.trans z
        cases z'
  have hok : HOk P w H s.heap := fun b u z => by
    obtain ⟨rfl, _, rfl⟩ := hH b u z
    exact ⟨ha, by rw [List.length_map]; exact Nat.le_trans hl hn, vs, _, rv, ha⟩
  have old : ∀ {b : Addr} {o : Obj}, s.heap.get? b = some o → (∀ z m, o.data ≠ .seq z m) → (hidT s.heap H).get? b = some o := fun {b o} e d => hidT_get e (by
    cases q : H b with
    | none => rfl
    | some u =>
      obtain ⟨rfl, _⟩ := hH b u q
      rw [ha] at e
      cases e
      exact absurd rfl (d _ _))
  have nsK : ∀ {b : Addr} {m : Str → Option Value}, s.heap.Ns b m → (hidT s.heap H).Ns b m := fun ⟨o, es, ep, e, d, r⟩ => ⟨o, es, ep, old e (fun _ _ z => by rw [d] at z; cases z), d, r⟩
  have hKb : K.In (hidT s.heap H) := fun b o e => hidT_get (KX b o e) (by
    cases q : H b with
    | none => rfl
    | some u =>
      obtain ⟨rfl, z, _⟩ := hH b u q
      rw [z] at e
      cases e)
  have hM : Mod K mg (hidT s.heap H) := ⟨hKb, nsK hns, ⟨mb, nsK hb, hbb⟩, let ⟨mc, h1, h2⟩ := hlim; ⟨mc, nsK h1, h2⟩⟩
  have e0 : Env0 P w K mg (hidT s.heap H) callerA [] s H := ⟨rfl, hM, fun b o e => of_hidT e, Nat.le_of_eq (hidT_size _ _), trivial, fun b z => absurd (show b ∈ ([] : List Addr) from z) (by simp), hok, .of_eq hg⟩
  have hsp : LSp K (lawS n) [.ref a] H (fun v _ => v = .bl true) fun _ _ _ => False :=
    ⟨[.lis (ns.map MV.int)], E0h, fun v _ => v = .bl true, fun _ _ => False, VRs_cons.mpr ⟨_, _, rfl, VR_lis.mpr ⟨a, _, rfl, hF, VRs.ints ns⟩, by simp⟩, ⟨fun _ _ z => absurd z (by simp [E0h]), fun _ z => absurd z (by simp [E0h])⟩, ⟨ns, rfl, rfl, hl, hbits, fun _ => rfl⟩, fun mv v h' H' _ _ r q => by subst q; simpa using r, fun _ _ _ _ _ _ _ _ z => z⟩
  refine codeAny_mono ((F _).run callerA [] s H ⟨[.ref a], []⟩ [.ref a] [.ref a] _ _ hr rfl e0 (hbind s (.ref a)) (.cons rfl .nil) hsp) fun r s' h => ?_
  rcases cr_ends h with ⟨u, rfl, v, H', os, bare, un, hok', r', ev⟩ | ⟨u, rfl, _, _, _, _, _, _, _, _, _, _, _, _, no⟩
  · cases ev
    cases (show u = Value.bool true from r')
    refine ⟨rfl, OldK.of_keep (fun b o e => ?_), os, bare⟩
    match q : H b with
    | none => exact un.keep b o e q (fun z => absurd (show b ∈ ([] : List Addr) from z) (by simp)) (by simp)
    | some x =>
      obtain ⟨_, _, rfl⟩ := hH b x q
      cases e.symm.trans (hok b _ q).1
      exact (hok' b _ (un.frzs b _ _ q)).1
  · exact no.elim
theorem Df.fnM {P : Program} {w : World} {K : PySem.W.Frag} {mg : Str → Option Value} {base : Heap} {x : Str} {st : Stmt} {N ps : List Str} {k : Nat} {Φ : Spec} {f : Addr} {fd : FuncData} (F : FunD K x x (defArgs st) (defBody st) (defScope st) [] [] f fd) (S : FnScope N ps (defScope st)) (len : ∀ args h q e, Φ args h q e → args.length = ps.length)
    (hbody : ∀ (f : Addr) (cdv : Value) (A : Around) (outer : List PySem.Env) (s : Shared) (H : Hp) (E : XK), On P w K mg base k (cxOf (L2N.CX P w) P w K mg base N x (defScope st) f cdv A outer s H E) →
      ∃ b, SSs (cxOf (L2N.CX P w) P w K mg base N x (defScope st) f cdv A outer s H E) (defBody st) b ∧ ∀ args h q e, Φ args h q e → b (startM N.length args) h (bodyD q e)) : FnM P w K mg base (k + 1) f fd ps Φ :=
  MM.fnM F S len fun cdv A outer s H E hr hgu => hbody f cdv A outer s H E ⟨rfl, rfl, rfl, rfl, rfl, hr, hgu⟩
/-- what is told of a law's def -/
def LawM (P : Program) (w : World) (K : PySem.W.Frag) (mg : Str → Option Value) (k n : Nat) (x : Str) (fa : Addr) : Prop := ∃ fd : FuncData, (∀ (s : Shared) (u : Value), BindsTo s fd ⟨[u], []⟩ [(x, u)]) ∧ ∀ base : Heap, FnM P w K mg base k fa fd [x] (lawS n)
theorem walkM {l : PySem.W.OpenLaw} {n k : Nat} {q : Program} {loose : List Str} {XP : (Str → Option Value) → Heap → Prop} {YP : World → Heap → Prop} {d : DefRec} {x : Str}
    (hn : l.most = some n) (hn2 : n ≤ sizeLine) (hdf : d.params.defaults = [])
    (hr : Room k callerA) (F : ∀ (w : World) (mg : Str → Option Value) (fa : Addr) (h : Heap), YP w h → h.Ns mainGlobals mg → mg d.name = some (.ref fa) → ∃ K : PySem.W.Frag, K.In h ∧ LawM l.prog w K mg k n x fa) : PySem.W.WalkO q loose XP YP l.row.toRowW d [] (fun f vs => PySem.call f vs) :=
  Att.attach_callB hn hdf fun w s₀ s₁ mg mb fa o pm cd doc a vs ns G Y ho hd hcd hmg hobj hints hlen hbits hg =>
    let ⟨_, KX, _, hb, hF⟩ := F w mg fa _ Y G.T.g hmg
    law_callG KX G.T.g G.T.b G.T.builtins G.T.nolimit hg hobj hints hlen hn2 hbits hr hF hb
/-! ### the head's facts: any tests of the written part -/
abbrev FaM := PySem.W.Frag → Bool
/-- a def and where it stands -/
abbrev DefA := (PySem.W.Frag → Addr) × He.DefD
def partsF (u : FuncData) : He.FnW := some (u.name, u.qualname, u.params, u.body, u.scope, u.globals, u.closure, u.builtins)
def fnWA (K : PySem.W.Frag) (a : Addr) : He.FnW := match K.lookup a with
  | some ⟨_, _, .func u, _⟩ => partsF u
  | _ => none
def okA (K : PySem.W.Frag) (a : Addr) (d : He.DefD) : Bool := PySem.W.keepIn K (.ref a) && (match K.lookup a with
  | some ⟨_, _, .func fd, _⟩ => PySem.W.codeIn K fd.code d.qual && (He.dflB K fd.defaults (d.dvs K) && He.kwdB K fd.kwdefaults (d.kws K))
  | _ => false)
theorem funDA {K : PySem.W.Frag} {a : Addr} {d : He.DefD} (e : fnWA K a = d.val) (c : okA K a d = true) : ∃ fd, FunD K d.name d.qual d.params d.body d.scope (d.dvs K) (d.kws K) a fd := by
  obtain ⟨kp, c2⟩ := He.ba c
  unfold fnWA at e
  cases q : K.lookup a with
  | none =>
    rw [q] at c2
    cases c2
  | some o =>
    obtain ⟨oc, od, dt, osl⟩ := o
    rw [q] at c2 e
    cases dt with
    | func fd =>
      cases fd with
      | mk n1 n2 n3 n4 n5 n6 n7 n8 n9 n10 n11 n12 n13 n14 n15 =>
        have e2 : (n1, n2, n3, n4, n5, n6, n7, n15) = (d.name, d.qual, d.params, .stmts d.body, d.scope, mainGlobals, [], builtinsNs) := Option.some.inj (show partsF _ = _ from e)
        cases e2
        obtain ⟨k1, k2⟩ := He.ba (show (PySem.W.codeIn K n13 d.qual && (He.dflB K n8 (d.dvs K) && He.kwdB K n9 (d.kws K))) = true from c2)
        exact ⟨_, ⟨oc, od, n8, n9, n10, n11, n12, n13, n14, osl, rfl, q, k1, He.dflB_ok (He.ba k2).1, He.kwdB_ok (He.ba k2).2⟩, kp⟩
    | _ => cases c2
def obsM (fa : List FaM) (fn : List DefA) (K : PySem.W.Frag) : He.AlD := ((fa.all fun f => f K) && fn.all fun d => okA K (d.1 K) d.2, fn.map fun d => fnWA K (d.1 K))
def valA (fn : List DefA) : He.AlD := (true, fn.map fun d => d.2.val)
def SaysM (fa : List FaM) (fn : List DefA) (K : PySem.W.Frag) : Prop := obsM fa fn K = valA fn
/-- the addresses: as, by steps of one's own -/
abbrev AsM := (Addr → Option Obj) → List Addr
def obsMG (as : AsM) (fa : List FaM) (fn : List DefA) (g : Addr → Option Obj) : He.AlD := obsM fa fn (He.frG g (as g))
def hookM (as : AsM) (fa : List FaM) (fn : List DefA) : PySem.W.Hook where
  α := He.AlD
  obs := fun s => obsMG as fa fn s.heap.get?
  val := fun _ => valA fn
  says := fun _ h => ∃ K : PySem.W.Frag, K.In h ∧ SaysM fa fn K
  of := fun _ _ e => ⟨_, He.frG_in, e⟩
  keeps := fun _ _ _ ⟨K, there, c⟩ k => ⟨K, there.keeps k, c⟩
theorem obsMG_eq {as : AsM} {fa : List FaM} {fn : List DefA} {g : Addr → Option Obj} {s : Shared} (h : ∀ a, g a = s.heap.get? a) : obsMG as fa fn g = (hookM as fa fn).obs s := by
  cases (funext h : g = s.heap.get?)
  rfl
section
variable {fa : List FaM} {fn : List DefA} {K : PySem.W.Frag}
theorem SaysM.fact (c : SaysM fa fn K) (i : Nat) {f : FaM} (h : fa[i]? = some f := by rfl) : f K = true := by
  have c1 := (He.ba (show ((fa.all fun f => f K) && fn.all fun d => okA K (d.1 K) d.2) = true from congrArg (fun z : He.AlD => z.1) c)).1
  exact (List.all_eq_true.mp c1) _ (List.mem_of_getElem? h)
theorem SaysM.def_ (c : SaysM fa fn K) (i : Nat) {d : DefA} (h : fn[i]? = some d := by rfl) : ∃ fd, FunD K d.2.name d.2.qual d.2.params d.2.body d.2.scope (d.2.dvs K) (d.2.kws K) (d.1 K) fd := by
  have c2 := (He.ba (show ((fa.all fun f => f K) && fn.all fun d => okA K (d.1 K) d.2) = true from congrArg (fun z : He.AlD => z.1) c)).2
  have e : fn.map (fun d => fnWA K (d.1 K)) = fn.map (fun d => d.2.val) := congrArg (fun z : He.AlD => z.2) c
  have e2 : (fn.map fun d => fnWA K (d.1 K))[i]? = (fn.map fun d => d.2.val)[i]? := by rw [e]
  simp only [List.getElem?_map, h] at e2
  exact funDA (Option.some.inj e2) (List.all_eq_true.mp c2 d (List.mem_of_getElem? h))
end
end MM
end
section
namespace MM
open PySem PySem.Spec PyProof.Rows L2
/-! ### one call deeper -/
abbrev cin (X : Cx) : Cx := { X with A := X.A.in1 }
section
variable {X : Cx} {pins : List (Addr × Obj)} {σ : L2.St} {H : Hp} {s : Shared} {Q : VK} {u f : Value} {Φ : Spec}
theorem inv_in (I : Inv X pins σ H s) : Inv (cin X) pins σ H s :=
  ⟨⟨I.ok.mod, I.ok.kind, I.ok.glob, I.ok.blt, I.ok.above, I.ok.inj, I.ok.has, I.ok.cab, I.ok.hd, I.ok.frames, I.ok.stk, I.ok.exf, I.ok.bs, I.ok.bsz, I.ok.noex, I.ok.exfs, I.ok.funs, I.ok.frf⟩, I.os, I.bare, I.base, I.loc, I.cell, I.free, I.freeC, I.pin, I.hok, I.len⟩
theorem inv_out (C : X.Ok) (I : Inv (cin X) pins σ H s) : Inv X pins σ H s := ⟨C, I.os, I.bare, I.base, I.loc, I.cell, I.free, I.freeC, I.pin, I.hok, I.len⟩
theorem ep_out (C : X.Ok) (h : EP (cin X) pins σ Q u s) : EP X pins σ Q u s := let ⟨v, H', I, r, q⟩ := h; ⟨v, H', inv_out C I, r, q⟩
theorem On.in1 {P : Program} {w : World} {K : PySem.W.Frag} {mg : Str → Option Value} {base : Heap} {k : Nat} (o : On P w K mg base (k + 1) X) : On P w K mg base k (cin X) := ⟨o.prog, o.w, o.K, o.mg, o.base, o.room.in1, o.gu⟩
/-- nothing is raised -/
def NoX : QX := fun _ _ => False
def CallQ (X : Cx) (A : Around) (f : Value) (Φ : Spec) : Prop :=
  ∀ (pins : List (Addr × Obj)) (s : Shared) (σ : L2.St) (H : Hp) (h : MH) (args : List MV) (vs : List V) (us : List Value) (q : QV) (Q : VK), Inv X pins σ H s → HR X.K h H → VRs X.K H args vs → Vals vs us → Φ args h q NoX →
    (∀ mv v h' H', TK H H' → HR X.K h' H' → VR X.K H' mv v → q mv h' → Q v H') → wpAny (model X.prog X.w) A (call f us) (EP X pins σ Q) X.xe s
theorem takes_no {X : Cx} {K : PySem.W.Frag} {H : Hp} {ρ : En} : Takes X (LW K H ρ NoX) := fun u s' ⟨_, _, _, _, _, _, _, _, _, _, _, _, _, _, _, _, w⟩ => by
  obtain ⟨mx, h', _, _, _, _, z⟩ := w
  exact z.elim
def noEn (σ : L2.St) : En := List.replicate σ.length none
theorem sr_no {K : PySem.W.Frag} {H : Hp} {σ : L2.St} : SR K H (noEn σ) σ := ⟨by simp [noEn], fun i x e => by
  have := List.mem_of_getElem? e
  simp [noEn] at this⟩
theorem CallM.q (c : CallM X f Φ) : CallQ X X.A f Φ := fun pins s σ H h args vs us q Q I hh va vv φ k => c pins s σ H (noEn σ) h args vs us q NoX Q I sr_no hh takes_no va vv φ k
theorem CallM.q1 (c : CallM (cin X) f Φ) : CallQ X X.A.in1 f Φ := fun pins s σ H h args vs us q Q I hh va vv φ k =>
  wpAny_mono (c pins s σ H (noEn σ) h args vs us q NoX Q (inv_in I) sr_no hh takes_no va vv φ k) (fun _ _ z => ep_out I.ok z) fun _ _ z => z
end
/-! ### own == and != -/
/-- where the class's own == stands, and that it has no own != -/
structure EqC (K : PySem.W.Frag) (C f : Addr) (own : List Addr) : Prop where
  cl : Cls K C
  eq : PySem.W.findIn K (.ref C) "__eq__" = some (some (.ref f))
  ne : PySem.W.findIn K (.ref C) "__ne__" = some (some (.builtin "object.__ne__"))
  mo : PySem.W.mroIn K C (.type "object") = some true
  fn : (PySem.W.isFn K (.ref f)) = true
  nf : ∀ a ∈ names7, PySem.W.notFirst K C (.type a) = true
  nfo : ∀ D ∈ own, PySem.W.notFirst K C (.ref D) = true
def okTy (own : List Addr) : Value → Prop
  | .type a => a ∈ names7
  | .ref D => D ∈ own
  | _ => False
theorem typM_ty {h : MH} {x : MV} {a : String} (e : typM h x = some (.type a)) : a ∈ names7 := by
  cases x with
  | ref p =>
    simp only [typM] at e
    split at e <;> cases e <;> decide
  | _ => first | (cases e; decide) | cases e
/-- x == y, x an instance of C -/
def bEqO (C : Addr) (own : List Addr) (Φ : Spec) : B2 := fun x y h q _ => ∃ fs, insM h x = some (C, fs) ∧ (∃ t, typM h y = some t ∧ ∀ D, t = .ref D → D ∈ own) ∧ Φ [x, y] h (fun v h' => ∃ b, v = .bl b ∧ q (.bl b) h') NoX
def rOwn (X : Cx) (B : B2) : R2 := fun x y H Q => ∃ mx my h q, HR X.K h H ∧ VR X.K H mx x ∧ VR X.K H my y ∧ B mx my h q NoX ∧ ∀ mv v' h' H', TK H H' → HR X.K h' H' → VR X.K H' mv v' → q mv h' → Q v' H'
theorem b2_own {X : Cx} {B : B2} (hB : ∀ x y h q e, B x y h q e → B x y h q NoX) : B2Ok X (rOwn X B) B := fun x y v u h H q e Q hh rx ry b k => ⟨x, y, h, q, hh, rx, ry, hB _ _ _ _ _ b, k⟩
theorem op_eqO {X : Cx} {P : Program} {w : World} {K : PySem.W.Frag} {mg : Str → Option Value} {base : Heap} {k j : Nat} {C f : Addr} {own : List Addr} {Φ : Spec} (o : On P w K mg base k X) (hj : j ≤ k) (isi : IsiOk K (isiT own)) (ho : ∀ D ∈ own, InsC K D) (E : EqC K C f own) (F : ∀ X : Cx, On P w K mg base j X → CallM X (.ref f) Φ) :
    OpR X (compareOp .Eq) (rOwn X (bEqO C own Φ)) := by
  have c := (F X (o.mono hj)).q
  obtain ⟨rfl, rfl, rfl, rfl, rfl, rm, gu⟩ := o
  rintro pins s σ H x y v u Q I rx ry ⟨mx, my, h, q, hh, vx, vy, b, kk⟩
  · obtain ⟨fs, e1, ⟨t, e2, e3⟩, φ⟩ := b
    obtain ⟨p, dx, gs, e0, g1, _⟩ := ins_ok hh vx e1
    subst e0
    obtain ⟨mA, J, _⟩ := ins_get I.hok g1
    obtain ⟨od, J, _⟩ := J.look
    obtain ⟨m, hF⟩ := I.fr
    cases (show v = .ref p from rx)
    obtain ⟨Pr, kx, kp, _⟩ := kit_of I ry (tyx_ok hh vy e2 fun D e => ho D (e3 D e))
    have L := kx.ty (model X.prog X.w) s.heap I.kIn kp
    have nf : PySem.W.notFirst X.K C t = true := by
      cases t with
      | type a => exact E.nf a (typM_ty e2)
      | ref D => exact E.nfo D (e3 D rfl)
      | _ =>
        exfalso
        cases my with
        | ref p' =>
          simp only [typM] at e2
          split at e2 <;> cases e2
        | _ => cases e2
    show wpAny (model X.prog X.w) X.A (richCompare .Eq (.ref p) u) (EP X pins σ Q) X.xe s
    refine PySem.W.cmp_K (op := .Eq) (tb := t) (by have := rm.un; omega) hF I.ok.mod.kin J L nf E.eq E.fn ?_
    refine wpAny_mono (c pins s σ H h [mx, my] [.ref p, y] [.ref p, u] _ (fun v H' => ∃ b, v = .bl b ∧ Q (.bl b) H') I hh (VRs_cons.mpr ⟨_, _, rfl, vx, VRs_cons.mpr ⟨_, _, rfl, vy, by simp⟩⟩) (.cons rfl (.cons ry .nil)) φ fun mv v' h' H' t' r' vv ⟨b, e4, z⟩ => by
      subst e4
      have vv' := vv
      simp at vv
      subst vv
      exact ⟨_, rfl, kk _ _ h' H' t' r' (by simp) z⟩ ) (fun r s' z => ?_) fun _ _ z => z
    obtain ⟨v', H', I', rv, b, e5, z⟩ := z
    subst e5
    obtain rfl : r = Value.bool b := rv
    exact (show EP X pins σ Q (.bool b) s' from ⟨V.bl b, H', I', (rfl : RelV (.bl b) (.bool b)), z⟩)
theorem se_eqO {X : Cx} {P : Program} {w : World} {K : PySem.W.Frag} {mg : Str → Option Value} {base : Heap} {k j : Nat} {C f : Addr} {own : List Addr} {Φ : Spec} {a b : Expr} {wa wb : WE} {pos : Pos} (o : On P w K mg base k X) (isi : IsiOk K (isiT own)) (ho : ∀ D ∈ own, InsC K D) (E : EqC K C f own) (F : ∀ X : Cx, On P w K mg base j X → CallM X (.ref f) Φ)
    (ha : SE X a wa) (hb : SE X b wb) (hj : j ≤ k := by decide) (hm : behindInMarks .Eq b = false := by with_unfolding_all rfl) : SE X (.Compare a [.Eq] [b] pos) (wBin (bEqO C own Φ) wa wb) :=
  se_cmp (b2_own fun x y h q e z => z) (op_eqO o hj isi ho E F) ha hb hm
section
variable {prog : Program} {w : World} {A : Around} {E : Value → Shared → Prop} {s : Shared} {K : PySem.W.Frag} {x C f : Addr} {y tb : Value} {ox : Obj} {od : Option Obj}
/-- the special method's own bound call, != of object -/
theorem ifBound_ne {M : Model} {Q : Option Value → Shared → Prop} (X : K.In s.heap) (I : PySem.W.InstAt s.heap x ox C od) (hs : PySem.W.findIn K (.ref C) "__ne__" = some (some (.builtin "object.__ne__")))
    (h : wpAny M A (call (.builtin "object.__ne__") [.ref x, y]) (fun v => Q (some v)) E s) : wpAny M A (callSpecialIfBound? (.ref x) "__ne__" [y]) Q E s := by
  have told : wpAny M A (call (.builtin "object.__ne__") ([.ref x] ++ [y]) >>= fun v => pure (some v)) Q E s := wpAny_bind (wpAny_mono h (fun _ _ => wpAny_pure) fun _ _ => id)
  simp only [callSpecialIfBound?, bindSpecialIfBound?, PySem.F.cmp_object.ne.bind]
  refine wpAny_holding (wpAny_bind (wpAny_bind (wpAny_bind (I.type.here ((PySem.W.looks_findIn X hs).here (wpAny_bind (wpAny_askSetting (wpAny_ite ?_))))))))
  simp only [PySem.F.cmp_object.ne.bind]
  split
  · exact wpAny_bind (wpAny_pure (wpAny_pure told))
  · refine wpAny_tryCatch (wpAny_bind (wpAny_pure (wpAny_pure told)))
/-- what != of object does where the class has its own == -/
theorem entry_ne {Q : Fin → Shared → Prop} (hu : A.units < cLine) (X : K.In s.heap) (I : PySem.W.InstAt s.heap x ox C od) (hs : PySem.W.findIn K (.ref C) "__eq__" = some (some (.ref f))) (hf : PySem.W.isFn K (.ref f) = true)
    (h : wpAny (model prog w) A (call (.ref f) [.ref x, y]) (fun v s' => ∃ b, v = .bool b ∧ Q (.done (.ret (.bool (!b)))) s') E s) : wpAny (model prog w) A (Builtin.«object.__ne__» ⟨[.ref x, y], []⟩) Q E s := by
  delta Builtin.«object.__ne__»
  repeat (first
    | (with_reducible refine wpAny_cRoomFor hu ?_)
    | refine wpAny_bind (m := callSpecialIfBound? (.ref x) (Str.ofString "__eq__") [y]) (PySem.W.ifBound_K X I hs hf (wpAny_mono h ?_ fun _ _ e => e))
    | wp_step)
  rintro _ s' ⟨b, rfl, q⟩
  repeat (first | exact q | exact wpAny_pure q | exact wpAny_truthy_bool q | refine wpAny_bind (m := truthy (.bool _)) (wpAny_truthy_bool ?_) | wp_step)
/-- a comparison is the left side's own, where the right side's type is not of a class under it -/
theorem left_first {op : CmpOp} {h₀ : Heap} {L : Addr} {m : Str → Option Value} {Q : Value → Shared → Prop} (hu : A.units < cLine) (X : K.In s.heap) (I : PySem.W.InstAt s.heap x ox C od) (hb : PySem.W.Looks (model prog w) s.heap (typeOf y) tb) (hn : PySem.W.notFirst K C tb = true)
    (one : wpAny (model prog w) A (tryCompare (.ref x) (cmpInfo op).2.1 y) (fun r s' => ∃ v, r = some v ∧ Q v s') E s) : wpAny (model prog w) A (richCompare op (.ref x) y) Q E s := by
  unfold richCompare
  simp only [oneThing_ref]
  refine wpAny_holding (wpAny_bind (wpAny_cRoomFor hu (wpAny_bind (I.type.here (wpAny_bind (hb.here ?_))))))
  split
  next q => 
    have under : PySem.W.subIn K tb (.ref C) = some false := (Bool.or_eq_true_iff.mp hn).elim (fun z => by rw [beq_iff_eq.mp z] at q; simp at q) beq_iff_eq.mp
    refine wpAny_bind ((PySem.W.looks_subIn X under).here ?_)
    refine (if_neg Bool.false_ne_true) ▸ wpAny_bind (wpAny_mono one ?_ fun _ _ => id)
    rintro _ s' ⟨v, rfl, z⟩
    exact wpAny_pure z
  next q =>
    refine wpAny_bind (wpAny_pure ((if_neg Bool.false_ne_true) ▸ wpAny_bind (wpAny_mono one ?_ fun _ _ => id)))
    rintro _ s' ⟨v, rfl, z⟩
    exact wpAny_pure z
theorem ne_K {h₀ : Heap} {L : Addr} {m : Str → Option Value} {Q : Value → Shared → Prop} (hu : A.units + 1 < cLine) (Fm : Fr h₀ L s.heap m) (X₀ : K.In h₀) (I : PySem.W.InstAt s.heap x ox C od) (hb : PySem.W.Looks (model prog w) s.heap (typeOf y) tb) (hn : PySem.W.notFirst K C tb = true)
    (hs : PySem.W.findIn K (.ref C) "__eq__" = some (some (.ref f))) (hne : PySem.W.findIn K (.ref C) "__ne__" = some (some (.builtin "object.__ne__"))) (hm : PySem.W.mroIn K C (.type "object") = some true) (hf : PySem.W.isFn K (.ref f) = true)
    (h : wpAny (model prog w) A.in1 (call (.ref f) [.ref x, y]) (fun v s' => ∃ b, v = .bool b ∧ Q (.bool (!b)) s') E s) : wpAny (model prog w) A (richCompare .NotEq (.ref x) y) Q E s := by
  have X := X₀.keeps Fm.keep
  have inst : PySem.W.Looks (model prog w) s.heap (isInstance (.ref x) (.type "object")) true := (I.cls ▸ ((PySem.W.Looks.ld I.at_).andThen .now) : PySem.W.Looks (model prog w) s.heap (typeOf (.ref x)) (.ref C)).andThen (PySem.W.looks_mroIn X hm)
  refine left_first (op := .NotEq) (h₀ := h₀) (L := L) (m := m) (Nat.lt_of_succ_lt hu) X I hb hn ?_
  refine wpAny_bind (ifBound_ne X I hne (wpAny_call (codeAny_call_builtin F.cmp_object.ne.plain F.cmpEntry_ne (PySem.W.check_slot F.cmpKind_ne F.cmpSplit_ne inst (F.cmpArgs_ne _ _) (entry_ne (A := A.in1) (Nat.lt_of_le_of_lt (Nat.le_of_eq rfl) hu) X I hs hf (wpAny_mono h ?_ fun _ _ => id))))))
  rintro _ s' ⟨b, rfl, q⟩
  first | exact ⟨b, rfl, wpAny_pure ⟨_, rfl, q⟩⟩ | exact ⟨b, rfl, wpAny_pure (wpAny_pure ⟨_, rfl, q⟩)⟩
end
end MM
end
section
namespace MM
open PySem PySem.Spec PyProof.Rows L2
/-! ### enumerate(list) -/
def enumM (items : List MV) : List MV := items.zipIdx.map fun p => .tup [.int (p.2 : Nat), p.1]
theorem enumM_len (items : List MV) : (enumM items).length = items.length := by simp [enumM]
theorem enumM_at {items : List MV} {i : Nat} {m : MV} (e : items[i]? = some m) : (enumM items)[i]? = some (.tup [.int (i : Nat), m]) := by
  simp [enumM, List.getElem?_zipIdx, e]
def kEnum (q : ItM → MH → Prop) : List MV → MH → Prop := fun xs h1 => match xs with
  | [.tup _] => False
  | [v] => seqK h1 v fun items => q ⟨enumM items, fun h2 => seqM h2 v = some items⟩ h1
  | _ => False
@[simp ↓] theorem kEnum_r {q : ItM → MH → Prop} {p : Addr} {h : MH} : kEnum q [.ref p] h = seqK h (.ref p) fun items => q ⟨enumM items, fun h2 => seqM h2 (.ref p) = some items⟩ h := rfl
@[simp ↓] theorem kEnum_l {q : ItM → MH → Prop} {xs : List MV} {h : MH} : kEnum q [.lis xs] h = q ⟨enumM xs, fun h2 => seqM h2 (.lis xs) = some xs⟩ h := rfl
def wEnumI (a : WA) : WI := fun ρ h q e => a ρ h (kEnum q) e
@[simp ↓] theorem wEnumI_s {a : WA} {ρ : En} {h : MH} {q : ItM → MH → Prop} {e : QX} : wEnumI a ρ h q e = a ρ h (kEnum q) e := rfl
theorem seq_list {K : PySem.W.Frag} {H : Hp} {h : MH} {v : MV} {p : Addr} {items : List MV} (nt : ∀ xs, v ≠ .tup xs) (rv : VR K H v (.ref p)) (r : HR K h H) (e : seqM h v = some items) : ∃ vs, SqL K H p vs ∧ VRs K H items vs := by
  cases v with
  | tup xs => exact absurd rfl (nt xs)
  | lis xs =>
    cases e
    obtain ⟨p', vs, e1, q, rs⟩ := VR_lis.mp rv
    cases e1
    exact ⟨vs, q.sq, rs⟩
  | ref a =>
    simp only [seqM] at e
    split at e
    · rename_i ys ey
      cases e
      obtain ⟨vs, e1, rs⟩ := r.ob a _ ey
      simp at rv
      subst rv
      exact ⟨vs, SqL.of e1, rs⟩
    · cases e
  | _ => cases e
theorem jm_enum {K : PySem.W.Frag} {H : Hp} {p : Addr} {v : MV} {items : List MV} (rv : VR K H v (.ref p)) (nt : ∀ xs, v ≠ .tup xs) : JM K H (Ite K p) ⟨enumM items, fun h2 => seqM h2 v = some items⟩ := by
  refine ⟨fun i H' h t r e hi => ?_, fun i H' h x H2 t r e hi y => ?_, fun H' h t r e => ?_⟩
  · obtain ⟨vs, sq, rs⟩ := seq_list nt (VR.tk t _ rv) r e
    exact walk_enum.goes i H' (by rw [← rs.length, ← enumM_len]; exact hi) sq
  · obtain ⟨vs, sq, rs⟩ := seq_list nt (VR.tk t _ rv) r e
    obtain ⟨T, x1, y1, e1, n1, e2, e3, e4⟩ := walk_enum.yields i H' x H2 (by rw [← rs.length, ← enumM_len]; exact hi) sq y
    subst e1 e2
    cases e3
    obtain ⟨m, e5, e6⟩ := rs.getV e4
    have t2 : TK H' (upd H' T (.tup [.int (i : Nat), y1])) := TK.new n1
    exact ⟨t2, r.new' n1, _, enumM_at e5, VR_tup.mpr ⟨T, _, rfl, SqT.of upd_same, VRs_cons.mpr ⟨_, _, rfl, by simp, VRs_cons.mpr ⟨_, _, rfl, VR.tk t2 _ e6, by simp⟩⟩⟩⟩
  · obtain ⟨vs, sq, rs⟩ := seq_list nt (VR.tk t _ rv) r e
    show (Ite K p).stop (enumM items).length H'
    rw [enumM_len, rs.length]
    exact walk_enum.stops H' sq
theorem si_enum {X : Cx} {e : Expr} {a : WA} {p pos tpos : Pos} {elts : List Expr} {kk : Nat} (hm : X.mg "enumerate" = none) (hg : Gl X "enumerate") (h : SA X [e] a) (hs : starEach [e] X.env = [(false, eval e X.env)] := by rfl) :
    SI X (.Tuple elts kk tpos) (.Call (.Name "enumerate" p) [e] [] pos) (wEnumI a) :=
  PI.imp (pi_enum hg hm h hs) fun σ H R ⟨ρ, h, q, e, sr, hr, tk, w, k⟩ => ⟨ρ, h, kEnum q, e, sr, hr, tk, w, fun xs vs h1 H1 t1 r1 v1 w1 => by
    have go : ∀ v, (∀ ys, v ≠ .tup ys) → xs = [v] → (seqK h1 v fun items => q ⟨enumM items, fun h2 => seqM h2 v = some items⟩ h1) → ∃ a ys, vs = [V.ref a] ∧ SqL X.K H1 a ys ∧ R (Ite X.K a) H1 := fun v nt e1 w2 => by
      subst e1
      rw [← seqK_eq] at w2
      obtain ⟨items, ei, w2⟩ := w2
      obtain ⟨u, e2, ru⟩ := v1.one
      subst e2
      obtain ⟨p, us, e3, _, _⟩ := seq_ok r1 ru ei
      subst e3
      obtain ⟨ys, sq, _⟩ := seq_list nt ru r1 ei
      exact ⟨p, ys, rfl, sq, k _ _ h1 H1 t1 r1 (jm_enum ru nt) w2⟩
    unfold kEnum at w1
    split at w1
    · exact w1.elim
    · rename_i v nt
      exact go _ (fun ys e => nt ys (by rw [e])) rfl w1
    · exact w1.elim⟩
/-! ### xs[::-1] of a list -/
def kRev (h : MH) (q : QV) : List MV → Prop := fun xs => newL h (.lst xs.reverse) q
def kRevL (q : QV) : QV := fun x h => match x with
  | .tup _ => False
  | v => seqK h v (kRev h q)
@[simp ↓] theorem kRev_s {h : MH} {q : QV} {xs : List MV} : kRev h q xs = newL h (.lst xs.reverse) q := rfl
@[simp ↓] theorem kRevL_r {q : QV} {h : MH} {p : Addr} : kRevL q (.ref p) h = seqK h (.ref p) (kRev h q) := rfl
@[simp ↓] theorem kRevL_l {q : QV} {h : MH} {xs : List MV} : kRevL q (.lis xs) h = newL h (.lst xs.reverse) q := rfl
def wRevL (w : WE) : WE := fun ρ h q e => w ρ h (kRevL q) e
@[simp ↓] theorem wRevL_s {w : WE} {ρ : En} {h : MH} {q : QV} {e : QX} : wRevL w ρ h q e = w ρ h (kRevL q) e := rfl
theorem VRs.rev {K : PySem.W.Frag} {H : Hp} : ∀ {xs : List MV} {vs : List V}, VRs K H xs vs → VRs K H xs.reverse vs.reverse
  | [], _, h => by rw [VRs_nil] at h; subst h; simp
  | x :: xs, _, h => by
    obtain ⟨v, r, e, a, q⟩ := VRs_cons.mp h
    subst e
    simpa only [List.reverse_cons] using (VRs.rev q).append (VRs_cons.mpr ⟨_, _, rfl, a, by simp⟩)
theorem se_revL {X : Cx} {e : Expr} {w : WE} {k : Nat} {p1 p2 p3 pos : Pos} (h : SE X e w) : SE X (.Subscript e (.Slice none none (some (.UnaryOp .USub (.Constant (.int 1) k p1) p2)) p3) pos) (wRevL w) :=
  PE.imp (pe_revL h) fun σ H Q ⟨ρ, h, q, e, sr, hr, tk, w, k⟩ => ⟨ρ, h, kRevL q, e, sr, hr, tk, w, fun x v h1 H1 t1 r1 v1 w1 => by
    have go : (∀ ys, x ≠ .tup ys) → (seqK h1 x (kRev h1 q)) → ∃ a xs, v = V.ref a ∧ SqL X.K H1 a xs ∧ ∀ p, H1 p = none → Q (.ref p) (upd H1 p (.lst xs.reverse)) := fun nt w2 => by
      rw [← seqK_eq] at w2
      obtain ⟨items, ei, w2⟩ := w2
      obtain ⟨p, us, e3, _, _⟩ := seq_ok r1 v1 ei
      subst e3
      obtain ⟨ys, sq, rs⟩ := seq_list nt v1 r1 ei
      refine ⟨p, ys, rfl, sq, fun a na => ?_⟩
      have t2 : TK H1 (upd H1 a (.lst ys.reverse)) := TK.new na
      exact k _ _ (h1.put a (.lst items.reverse)) _ (t1.trans t2) (r1.new na ⟨_, upd_same, (rs.rev).tk t2 _⟩) (by simp) (w2 a (r1.free na))
    unfold kRevL at w1
    split at w1
    · exact w1.elim
    · rename_i nt
      exact go (fun ys e => nt ys e) w1⟩
/-! ### a dict display, its keys texts and whole numbers -/
def kM : Key → MV
  | .inl i => .int i
  | .inr x => .str x
def keyM? : MV → Option Key
  | .int i => some (.inl i)
  | .str x => some (.inr x)
  | _ => none
def mergeM (kvs more : List (Key × MV)) : List (Key × MV) := more.foldl (fun acc kv => putKM acc kv.1 kv.2) kvs
theorem pr_merge {K : PySem.W.Frag} {H : Hp} : ∀ {more : List (Key × MV)} {ms : List (Key × V)} {kvs : List (Key × MV)} {gs : List (Key × V)}, PR K H kvs gs → PR K H more ms → PR K H (mergeM kvs more) (mergeK gs ms)
  | [], ms, kvs, gs, a, b => by
    have e : ms = [] := by simpa using b.1
    subst e
    exact a
  | p :: more, ms, kvs, gs, a, b => by
    obtain ⟨v, ms', e, rv, b'⟩ := pr_cons b
    subst e
    show PR K H (mergeM (putKM kvs p.1 p.2) more) (mergeK (putK gs p.1 v) ms')
    exact pr_merge (pr_put rv a) b'
def wPrs : List (WE × WE) → En → MH → (List (MV × MV) → MH → Prop) → QX → Prop
  | [], _, h, q, _ => q [] h
  | (k, v) :: r, ρ, h, q, e => k ρ h (fun x h1 => v ρ h1 (fun y h2 => wPrs r ρ h2 (fun ps h3 => q ((x, y) :: ps) h3) e) e) e
def LPrs (X : Cx) (ws : List (WE × WE)) : L2.St → Hp → (List (V × V) → Hp → Prop) → Prop := fun σ H Q => ∃ ρ h q e, SR X.K H ρ σ ∧ HR X.K h H ∧ Takes X (LW X.K H ρ e) ∧ wPrs ws ρ h q e ∧
  ∀ ps vs h' H', TK H H' → HR X.K h' H' → VRs X.K H' (ps.map (·.1)) (vs.map (·.1)) → VRs X.K H' (ps.map (·.2)) (vs.map (·.2)) → q ps h' → Q vs H'
theorem prs_ok {X : Cx} : ∀ (ws : List (WE × WE)) {σ : L2.St} {H : Hp} {Q : List (V × V) → Hp → Prop}, LPrs X ws σ H Q → tPairs (ws.map fun p => (LE X p.1, LE X p.2)) σ H Q
  | [], σ, H, Q, ⟨ρ, h, q, e, sr, hr, tk, w, k⟩ => k [] [] h H (TK.refl H) hr (by simp) (by simp) w
  | (wk, wv) :: r, σ, H, Q, ⟨ρ, h, q, e, sr, hr, tk, w, k⟩ => by
    refine ⟨ρ, h, _, e, sr, hr, tk, w, fun x u h1 H1 t1 r1 v1 w1 => ⟨ρ, h1, _, e, sr.tk t1, r1, tk_mono t1 tk, w1, fun y z h2 H2 t2 r2 v2 w2 => ?_⟩⟩
    exact prs_ok r ⟨ρ, h2, _, e, sr.tk (t1.trans t2), r2, tk_mono (t1.trans t2) tk, w2, fun ps vs h3 H3 t3 r3 v3 v4 w3 =>
      k ((x, y) :: ps) ((u, z) :: vs) h3 H3 (t1.trans (t2.trans t3)) r3 (VRs_cons.mpr ⟨_, _, rfl, VR.tk (t2.trans t3) _ v1, v3⟩) (VRs_cons.mpr ⟨_, _, rfl, VR.tk t3 _ v2, v4⟩) w3⟩
theorem keys_ok {K : PySem.W.Frag} {H : Hp} : ∀ {kvs : List (Key × MV)} {vs : List (V × V)}, VRs K H (kvs.map fun kv => kM kv.1) (vs.map (·.1)) → VRs K H (kvs.map (·.2)) (vs.map (·.2)) → ∃ gs : List (Key × V), vs = gs.map (fun kv => (kV kv.1, kv.2)) ∧ PR K H kvs gs
  | [], vs, a, b => by
    have e : vs = [] := by simpa using a
    subst e
    exact ⟨[], rfl, rfl, by simp⟩
  | (key, m) :: kvs, vs, a, b => by
    cases vs with
    | nil => obtain ⟨_, _, e, _⟩ := VRs_cons.mp a; cases e
    | cons p vs =>
      obtain ⟨x, y⟩ := p
      obtain ⟨_, _, e1, a1, a2⟩ := VRs_cons.mp a
      obtain ⟨_, _, e2, b1, b2⟩ := VRs_cons.mp b
      cases e1
      cases e2
      obtain ⟨gs, e3, pr⟩ := keys_ok a2 b2
      refine ⟨(key, y) :: gs, ?_, pr_mk b1 pr⟩
      have ex : x = kV key := by
        cases key with
        | inl i => simpa [kM, kV] using a1
        | inr z => simpa [kM, kV] using a1
      rw [List.map_cons, e3, ex]
def wDisp (ws : List (WE × WE)) : WE := fun ρ h q e => ∀ p, h.at_ p = none → wPrs ws ρ (h.put p (.dK [])) (fun ps h2 => h2.at_ p = some (.dK []) ∧ ∃ kvs : List (Key × MV), ps = kvs.map (fun kv => (kM kv.1, kv.2)) ∧ kvs.length ≤ 15 ∧ q (.ref p) (h2.put p (.dK (mergeM [] kvs)))) e
theorem se_disp {X : Cx} {pos : Pos} {keys : List (Option Expr)} {values : List Expr} {ws : List (WE × WE)} (h : PPs X pos keys values (ws.map fun p => (LE X p.1, LE X p.2))) (hall : keys.all (·.isSome) = true := by rfl) (hl : keys.length = values.length := by rfl) (h0 : keys ≠ [] := by exact fun z => nomatch z)
    (h15 : keys.length ≤ 15 := by decide) : SE X (.Dict keys values pos) (wDisp ws) :=
  PE.imp (pe_disp h hall hl h0 h15) fun σ H Q ⟨ρ, h, q, e, sr, hr, tk, w, k⟩ => fun p np => by
    have t0 : TK H (upd H p (.dK [])) := TK.new np
    have r0 : HR X.K (h.put p (.dK [])) (upd H p (.dK [])) := hr.new np ⟨[], upd_same, rfl, by simp⟩
    refine prs_ok ws ⟨ρ, h.put p (.dK []), _, e, sr.tk t0, r0, tk_mono t0 tk, w p (hr.free np), fun ps vs h2 H2 t2 r2 v1 v2 ⟨e1, kvs, e2, l, w2⟩ => ?_⟩
    subst e2
    obtain ⟨gs, e3, pr⟩ := keys_ok (kvs := kvs) (by simpa [List.map_map, Function.comp_def] using v1) (by simpa [List.map_map, Function.comp_def] using v2)
    obtain ⟨_, e4, e5⟩ := r2.ob p _ e1
    have e6 : ∀ g : List (Key × V), PR X.K H2 ([] : List (Key × MV)) g → g = [] := fun g z => by simpa using z.1
    rw [e6 _ e5] at e4
    have t3 : TK H2 (upd H2 p (.dK (mergeK [] gs))) := TK.mut e4 (fun z => z)
    have hl : gs.length = kvs.length := by
      have := congrArg List.length pr.1
      simpa using this.symm
    refine ⟨e4, gs, e3, by rw [hl]; exact l, ?_⟩
    exact k _ _ (h2.put p (.dK (mergeM [] kvs))) _ (t0.trans (t2.trans t3)) (r2.set e1 t3 ⟨_, upd_same, (pr_merge (kvs := []) (gs := []) ⟨rfl, by simp⟩ pr).tk t3⟩) (by simp) w2
theorem prs_nil {X : Cx} {pos : Pos} : PPs X pos [] [] (([] : List (WE × WE)).map fun p => (LE X p.1, LE X p.2)) := pps_nil
theorem prs_cons {X : Cx} {pos : Pos} {k v : Expr} {ks : List (Option Expr)} {vs : List Expr} {wk wv : WE} {ws : List (WE × WE)} (hk : SE X k wk) (hv : SE X v wv) (hr : PPs X pos ks vs (ws.map fun p => (LE X p.1, LE X p.2))) :
    PPs X pos (some k :: ks) (v :: vs) (((wk, wv) :: ws).map fun p => (LE X p.1, LE X p.2)) := pps_cons hk hv hr
/-- {} -/
def wDNew : WE := fun _ h q _ => newL h (.dK []) q
@[simp ↓] theorem wDNew_s {ρ : En} {h : MH} {q : QV} {e : QX} : wDNew ρ h q e = newL h (.dK []) q := rfl
theorem se_dnew {X : Cx} {pos : Pos} : SE X (.Dict [] [] pos) wDNew := PE.imp pe_dnewK fun σ H Q ⟨ρ, h, q, e, sr, hr, tk, w, k⟩ => fun p np => by
  have t2 : TK H (upd H p (.dK [])) := TK.new np
  exact k _ _ (h.put p (.dK [])) _ t2 (hr.new np ⟨[], upd_same, rfl, by simp⟩) (by simp) (w p (hr.free np))
end MM
end
section
set_option maxHeartbeats 3200000
namespace MM
open PySem PySem.Spec PyProof.Rows L2
/-! ### set(a list): an invariant tells what the set at S holds behind i items -/
/-- a set just made -/
def bareSet (w : World) : Obj :=
  { cls := .type "set", dict := none, data := .set #[] 0 (.fresh 0 0 (!w.params.followText "set-order")) }
/-- J holds of the bare set, asks about the set alone, and goes on by one item -/
structure Fills (P : Program) (w : World) (S : Addr) (items : Array Value) (J : Nat → Heap → Prop) : Prop where
  bare : ∀ {h : Heap}, h.get? S = some (bareSet w) → J 0 h
  own : ∀ {i : Nat} {h g : Heap}, J i h → (∀ o, h.get? S = some o → g.get? S = some o) → J i g
  item : ∀ {A : Around} {E : Value → Shared → Prop} {i : Nat} {v : Value} {s : Shared} {Q : Bool → Shared → Prop}, items[i]? = some v → J i s.heap →
    (∀ b g, Heap.SameBut S s.heap g → J (i + 1) g → Q b { s with heap := g, toks := s.toks + 1 }) → wpAny (model P w) A (setAdd S v) Q E s
theorem Fills.loop {P : Program} {w : World} {S I : Addr} {items : Array Value} {J : Nat → Heap → Prop} (fl : Fills P w S items J) {A : Around} {fp wr : List Addr} {G : Array GenState → Array GenState → Prop} {St : Nat → Shared → Prop}
    {R : Result → Shared → Prop} (W : WalksS P w A.in1 I fp wr G items.size (fun i v => items[i]? = some v) St) (out : S ∉ fp) :
    ∀ (m i : Nat) {s : Shared}, i + m = items.size → St i s → J i s.heap → (∀ z, Moved (S :: wr) G s z → J items.size z.heap → R (.ok (.ret .none)) z) →
      codeAny (model P w) A (.builtin "set.update.loop" { pos := [.ref S, .ref I] }) R s := by
  have hw : S ∉ wr := fun q => out (W.sub S q)
  have up : ∀ {a b : Shared}, Moved wr G a b → Moved (S :: wr) G a b := fun q => q.mono fun b m => .tail _ m
  intro m
  induction m with
  | zero =>
    intro i s e st j z
    have e : i = items.size := e
    subst e
    refine codeAny_builtin F.entry_set_update_loop (by
      rw [Around.under_plainId F.plain_set_update_loop _]; exact wpAny_bind (m := pyNext (.ref I)) (W.done s _ _ st fun g mv => wpAny_pure (z g (up mv) (fl.own j fun o q => mv.heap S o hw q))))
  | succ m ih =>
    intro i s e st j z
    refine codeAny_builtin F.entry_set_update_loop (by
      rw [Around.under_plainId F.plain_set_update_loop _]; refine wpAny_bind (m := pyNext (.ref I)) (W.item i s _ _ (by omega) st fun v g hv st' mv => ?_)
      refine wpAny_bind (m := holding [v] (setAdd S v)) (wpAny_holding (fl.item hv (fl.own j fun o q => mv.heap S o hw q) fun b k same j' => ?_))
      have off : ∀ b, b ≠ S → ∀ o, g.heap.get? b = some o → k.get? b = some o := fun b n o q => (same.2 b n).trans q
      refine wpAny_pure ⟨plainId_quiet F.plain_set_update_loop _, ih (i + 1) (by omega) (W.frame _ g _ _ st' (Nat.le_succ _) fun b mb o q => off b (fun n => out (n ▸ mb)) o q) j' fun y my jy => z y ?_ jy⟩
      exact Moved.trans W.gtrans ((up mv).then_heap (Nat.le_succ _) fun b o nb q => off b (fun n => nb (n ▸ .head _)) o q) my)
/-- what is said of the heap behind it all -/
def Filled (s : Shared) (items : Array Value) (J : Nat → Heap → Prop) (z : Shared) : Prop :=
  ∃ g tk, z = { s with heap := g, toks := tk } ∧ J items.size g ∧ ∀ b o, s.heap.get? b = some o → g.get? b = some o
theorem Fills.init {P : Program} {w : World} {items : Array Value} {J : Nat → Heap → Prop} {A : Around} {E : Value → Shared → Prop} {s : Shared} {l : Addr} (fl : Fills P w s.heap.objs.size items J) (hh : A.handled = none) (hl : s.heap.IsList l items) :
    codeAny (model P w) A (.call (.builtin "set.__init__") ⟨[.ref s.heap.objs.size, .ref l], []⟩) (wants (fun r z => r = .none ∧ Filled s items J z) E) { s with heap := s.heap.push (bareSet w) } := by
  have bS : (s.heap.push (bareSet w)).get? s.heap.objs.size = some (bareSet w) := Heap.get?_push_size _ rfl
  have tS : Shared.TypeIs { s with heap := s.heap.push (bareSet w) } (.ref s.heap.objs.size) "set" := ⟨_, bS, rfl⟩
  refine codeAny_call_builtin F.called_set.init.plain F.entry_set_init (check_set_init_1 tS ?_)
  have lS : (s.heap.push (bareSet w)).IsList l items := hl.push _
  have no1 := F.sub_list_set
  have no2 := F.sub_list_frozenset
  have no3 : ("list" == "dict") = false := by decide
  obtain ⟨⟨cl, dct, dat, slo⟩, ol, rfl, n, rfl⟩ := id lS
  unfold Builtin.«set.__init__» noKeywords
  unfold Builtin.Frozenset.updateFrom
  generalize ePI : pyIter = PI
  wp_walk
  subst ePI
  refine wpAny_pyIter_list lS (wpAny_bind (wpAny_runValue ?_))
  have lt : l < s.heap.objs.size := by obtain ⟨_, q, _⟩ := hl; exact Heap.lt_size q
  have sz : (s.heap.push (bareSet w)).objs.size = s.heap.objs.size + 1 := Heap.size_push ..
  have nI : l ≠ (s.heap.push (bareSet w)).objs.size := fun q => by rw [sz] at q; exact Nat.lt_irrefl _ (Nat.lt_trans (q ▸ lt) (Nat.lt_succ_self _))
  have nS : s.heap.objs.size ∉ [(s.heap.push (bareSet w)).objs.size, l] := fun m => by
    rw [sz] at m
    rcases List.mem_cons.mp m with q | m
    · exact Nat.succ_ne_self _ q.symm
    · exact Nat.lt_irrefl l ((List.mem_singleton.mp m) ▸ lt)
  refine fl.loop (Walks.list (by simp [hh]) _ l nI items).toS nS items.size 0 (by omega) ⟨⟨_, Heap.get?_push_size _ rfl, rfl, rfl⟩, lS.push _⟩ (fl.bare (Heap.get?_push_of_some _ bS)) fun z mv j => ?_
  refine wpAny_pure (wpAny_pure ⟨rfl, z.heap, z.toks, ?_, j, fun b o q => ?_⟩)
  · obtain ⟨g, e1, e2, tk, e3⟩ := z
    obtain ⟨_, a, b, c, _⟩ := mv
    simp only at a b c
    subst a b c
    rfl
  · have := Heap.lt_size q
    refine mv.heap b o (fun m => ?_) (Heap.get?_push_of_some _ (Heap.get?_push_of_some _ q))
    rw [sz] at m
    rcases List.mem_cons.mp m with e | m
    · exact Nat.lt_irrefl _ (e ▸ this)
    · exact Nat.lt_irrefl _ (Nat.lt_trans ((List.mem_singleton.mp m) ▸ this) (Nat.lt_succ_self _))
theorem wants_two {T E : Value → Shared → Prop} {r : Result} {z : Shared} (h : wants T E r z) : (∃ v, r = .ok (.ret v) ∧ T v z) ∨ ∃ e, r = .error e ∧ E e z := by
  rcases r with e | f
  · exact .inr ⟨e, rfl, h⟩
  · cases f <;> first | exact h.elim | exact .inl ⟨_, rfl, h⟩
theorem Fills.call {P : Program} {w : World} {items : Array Value} {J : Nat → Heap → Prop} {A : Around} {E : Value → Shared → Prop} {s : Shared} {l : Addr} {Q : Value → Shared → Prop} (fl : Fills P w s.heap.objs.size items J) (hh : A.handled = none) (hl : s.heap.IsList l items)
    (q : ∀ z, Filled s items J z → Q (.ref s.heap.objs.size) z) : wpAny (model P w) A (call (.type "set") [.ref l]) Q E s := by
  have C := F.called_set
  obtain ⟨a1, a2, ⟨c, tl, a3⟩, a4, a5, a6, ini⟩ := id C
  have a7 := F.typeCall_set_1 (.ref l)
  refine wpAny_call (codeAny_of_tree (show wpAny (model P w) _ (callAny (.type "set") ⟨[.ref l], []⟩) _ _ s from ?_))
  refine wpAny_pure (And.intro (Code.quiet_builtin _ (by decide +kernel)) (codeAny_builtin F.entry_type_call ?_))
  rw [Around.under_plain (weight_type_call_type _ _ _) rfl]
  repeat any_goals first | assumption | wp_step
  refine codeAny_mono (code_set_led1 (.ref l) (E := E) (Q₁ := fun v z => v = .ref s.heap.objs.size ∧ z = { s with heap := s.heap.push (bareSet w) }) (And.intro rfl rfl)) fun r z hr => ?_
  rcases wants_two hr with ⟨v, rfl, rfl, rfl⟩ | ⟨e, rfl, x⟩
  · have tS : Shared.TypeIs { s with heap := s.heap.push (bareSet w) } (.ref s.heap.objs.size) "set" := ⟨_, Heap.get?_push_size _ rfl, rfl⟩
    have b1 := ini.lookup
    have b2 := ini.bind (.ref s.heap.objs.size)
    repeat any_goals first | assumption | wp_step
    refine codeAny_mono (fl.init (E := E) hh hl) fun r z hr => ?_
    rcases wants_two hr with ⟨v, rfl, rfl, y⟩ | ⟨e, rfl, x⟩
    · repeat any_goals first | assumption | wp_step
      exact q z y
    · exact x
  · exact x
/-! #### of whole numbers -/
theorem fills_ints {P : Program} {w : World} {S : Addr} {items : Array Value} {ns : List Int} (hit : IntsAre items.toList ns) (hb : ns.length + 1 < scanBound) :
    Fills P w S items fun i h => ∃ c, c ≤ i ∧ SetR w h S (fun j => decide (j ∈ ns.take i)) c where
  bare := fun e => ⟨0, Nat.le_refl 0, setR_new_at e⟩
  own := fun ⟨c, lc, R⟩ k => ⟨c, lc, R.at k⟩
  item := fun {A E i v s Q} ei ⟨c, lc, R⟩ q => by
    obtain ⟨t, ev⟩ := IntsAre.int_at hit i v (by rw [Array.getElem?_toList, ei])
    have li : i < ns.length := by
      rw [← IntsAre.length hit, Array.length_toList]
      exact (Array.getElem?_eq_some_iff.mp ei).1
    have en : ns[i]? = some ns[i] := List.getElem?_eq_getElem li
    rw [List.getD_eq_getElem?_getD, en] at ev
    subst ev
    unfold setAdd
    refine wpAny_holding (wpAny_bind ((intKind P w).pyHash (intKind_is _ _ _ _) (setR_add_hashed (s := { s with toks := s.toks + 1 }) R (by omega) fun g sb R2 => q _ g sb ⟨_, ?_, R2.congr fun j => ?_⟩)))
    · split <;> omega
    · have e : ns.take (i + 1) = ns.take i ++ [ns[i]] := by rw [List.take_add_one, en] <;> rfl
      rw [e]
      simp only [List.mem_append, List.mem_singleton, Bool.decide_or]
      rfl
theorem call_set_lstI {P : Program} {w : World} {A : Around} {E : Value → Shared → Prop} {s : Shared} {l : Addr} {items : Array Value} (ns : List Int) {Q : Value → Shared → Prop} (hh : A.handled = none) (hl : s.heap.IsList l items) (hit : IntsAre items.toList ns) (hb : ns.length + 1 < scanBound)
    (q : ∀ (g : Heap) (tk c : Nat), SetR w g s.heap.objs.size (fun j => decide (j ∈ ns)) c → c ≤ ns.length → (∀ b o, s.heap.get? b = some o → g.get? b = some o) → Q (.ref s.heap.objs.size) { s with heap := g, toks := tk }) : wpAny (model P w) A (call (.type "set") [.ref l]) Q E s :=
  (fills_ints hit hb).call hh hl fun z ⟨g, tk, ez, ⟨c, lc, R⟩, keep⟩ => by
    subst ez
    have e : items.size = ns.length := by rw [← IntsAre.length hit, Array.length_toList]
    rw [e] at lc
    rw [e, List.take_length] at R
    exact q g tk c R lc keep
end MM
end
section
namespace MM
open PySem PySem.Spec PyProof.Rows L2
/-! ### sorted(set(list of whole numbers)) -/
theorem vals_isInts {ns : List Int} : ∀ {us : List Value}, Vals (ns.map V.int) us → IntsAre us ns := fun {us} r => by
  induction ns generalizing us with
  | nil => cases r; exact .nil
  | cons n ns ih =>
    cases r with
    | cons a b =>
      obtain ⟨t, rfl⟩ := a
      exact .cons n t (ih b)
def rSetI (K : PySem.W.Frag) (w : World) : List V → Hp → VK → Prop := fun xs H Q => ∃ (l : Addr) (ns : List Int), xs = [V.ref l] ∧ SqL K H l (ns.map V.int) ∧ ns.length < 64 ∧ ∀ a c, H a = none → c ≤ ns.length → Q (.ref a) (upd H a (SetO w a (fun j => decide (j ∈ ns)) c))
section
variable {X : Cx}
theorem cr_setI (hc : X.calm = true) : CallR X (.type "set") (rSetI X.K X.w) := by
  rintro pins s σ H xs us Q I r ⟨l, ns, rfl, sq, hl, q⟩
  rw [Vals.ref1 r]
  obtain ⟨its, rv, p, hz⟩ := I.list sq
  refine call_set_lstI ns (I.ok.hd hc) p.isList (by simpa using vals_isInts rv) (by unfold scanBound; omega) fun h' tk c R hc' k => ?_
  exact ⟨.ref _, _, I.laid (t' := tk) k (Nat.le_refl _) (setO_new R), rfl, q _ c (I.hok.fresh (Nat.le_refl _)) hc'⟩
theorem ints_of {K : PySem.W.Frag} {H : Hp} : ∀ {ns : List Int} {vs : List V}, VRs K H (ns.map MV.int) vs → vs = ns.map V.int
  | [], vs, h => by simpa using h
  | n :: ns, vs, h => by
    obtain ⟨v, r, e, a, b⟩ := VRs_cons.mp h
    simp at a
    subst e a
    rw [ints_of b] <;> rfl
def kSrtSet (h : MH) (q : QV) : List MV → Prop := fun xs => ∃ ns : List Int, xs = ns.map MV.int ∧ ns.length < 64 ∧ ∀ out : List Int, out.Pairwise (· < ·) → (∀ k, k ∈ out ↔ k ∈ ns) → newL h (.lst (out.map MV.int)) q
def kSrt1 (q : QV) : List MV → MH → Prop := fun xs h => match xs with
  | [.tup _] => False
  | [v] => seqK h v (kSrtSet h q)
  | _ => False
@[simp ↓] theorem kSrt1_r {q : QV} {h : MH} {p : Addr} : kSrt1 q [.ref p] h = seqK h (.ref p) (kSrtSet h q) := rfl
def wSrtSet (a : WA) : WE := fun ρ h q e => a ρ h (kSrt1 q) e
@[simp ↓] theorem wSrtSet_s {a : WA} {ρ : En} {h : MH} {q : QV} {e : QX} : wSrtSet a ρ h q e = a ρ h (kSrt1 q) e := rfl
theorem se_srtSet {e : Expr} {a : WA} {p1 p2 pos1 pos2 : Pos} (hc : X.calm = true) (hm : X.mg "sorted" = none) (hm2 : X.mg "set" = none) (hg : Gl X "sorted") (hg2 : Gl X "set") (h : SA X [e] a)
    (he : starEach [e] X.env = (false, eval e X.env) :: starEach [] X.env := by rfl)
    (he2 : starEach [Expr.Call (.Name "set" p2) [e] [] pos2] X.env = (false, eval (Expr.Call (.Name "set" p2) [e] [] pos2) X.env) :: starEach [] X.env := by rfl) :
    SE X (.Call (.Name "sorted" p1) [.Call (.Name "set" p2) [e] [] pos2] [] pos1) (wSrtSet a) := by
  refine PE.imp (pe_callB (cr_sortedSet hc) hg hm rfl (pa_cons (pe_callTy (cr_setI hc) hg2 hm2 rfl h (by decide) (by decide) he rfl) pa_nil he2) (by decide) (by decide) he2 rfl) fun σ H Q ⟨ρ, h, q, e, sr, hr, tk, w, k⟩ => ?_
  refine ⟨ρ, h, kSrt1 q, e, sr, hr, tk, w, fun xs vs h1 H1 t1 r1 v1 w1 => ?_⟩
  have go : ∀ v, (∀ ys, v ≠ .tup ys) → xs = [v] → seqK h1 v (kSrtSet h1 q) → rSetI X.K X.w vs H1 fun v H2 => ∃ (ws : List V) , ws = [v] ∧ rSortedSet X.w ws H2 Q := fun v nt e1 w2 => by
    subst e1
    rw [← seqK_eq] at w2
    obtain ⟨items, ei, ns, e4, l64, w2⟩ := w2
    obtain ⟨u, e2, ru⟩ := v1.one
    subst e2
    obtain ⟨p, us, e3, _, _⟩ := seq_ok r1 ru ei
    subst e3
    obtain ⟨ys, sq, rs⟩ := seq_list nt ru r1 ei
    subst e4
    rw [ints_of rs] at sq
    refine ⟨p, ns, rfl, sq, l64, fun a c na hc' => ⟨_, rfl, a, _, c, rfl, upd_same, by omega, fun out b srt mem _ nb => ?_⟩⟩
    have t2 : TK H1 (upd H1 a (SetO X.w a (fun j => decide (j ∈ ns)) c)) := TK.new na
    have r2 := r1.new' (o := SetO X.w a (fun j => decide (j ∈ ns)) c) na
    have t3 := TK.new (o := .lst (out.map V.int)) nb
    exact k _ _ (h1.put b (.lst (out.map MV.int))) _ (t1.trans (t2.trans t3)) (r2.new nb ⟨_, upd_same, VRs.ints out⟩) (by simp) (w2 out srt (fun k => by rw [mem k]; simp) b (r2.free nb))
  unfold kSrt1 at w1
  split at w1
  · exact w1.elim
  · rename_i v nt
    obtain ⟨l, ns, e1, sq, l64, z⟩ := go _ (fun ys e => nt ys (by rw [e])) rfl w1
    refine ⟨l, ns, e1, sq, l64, fun a c na hc' => ?_⟩
    obtain ⟨ws, e2, z2⟩ := z a c na hc'
    subst e2
    exact z2
  · exact w1.elim
end
end MM
end
section
namespace MM
open PySem PySem.Spec PyProof.Rows L2
/-! ### list.index, of whole numbers -/
def kIdx (q : QV) (k : Int) (h : MH) : Option MO → Prop := fun o => match o with
  | some (.lst xs) => ∃ ns : List Int, xs = ns.map MV.int ∧ k ∈ ns ∧ q (.int (ns.idxOf k : Nat)) h
  | _ => False
@[simp ↓] theorem kIdx_s {q : QV} {k : Int} {h : MH} {xs : List MV} : kIdx q k h (some (.lst xs)) = ∃ ns : List Int, xs = ns.map MV.int ∧ k ∈ ns ∧ q (.int (ns.idxOf k : Nat)) h := rfl
def mIndex : MSpec := fun x args h q _ => match x, args with
  | .ref p, [.int k] => atK h p (kIdx q k h)
  | _, _ => False
@[simp ↓] theorem mIndex_s {p : Addr} {k : Int} {h : MH} {q : QV} {e : QX} : mIndex (.ref p) [.int k] h q e = atK h p (kIdx q k h) := rfl
theorem ok_index {X : Cx} : MtOk X "list" (rIndex X.K) isLst mIndex := ⟨lst_ty, fun x args v vs h H q e Q hh rx ra φ k => by
  unfold mIndex at φ
  split at φ
  · rename_i p i
    unfold atK kIdx at φ
    split at φ
    · rename_i xs ep
      obtain ⟨ns, e1, hm, z⟩ := φ
      subst e1
      obtain ⟨us, g, rs⟩ := hh.ob _ _ ep
      simp at rx
      subst rx
      obtain ⟨y, e2, ry⟩ := ra.one
      subst e2
      simp at ry
      subst ry
      rw [ints_of rs] at g
      have hlt := List.idxOf_lt_length_of_mem hm
      refine ⟨p, ns.map V.int, .int i, ns.idxOf i, .int i, rfl, rfl, SqL.of g, rfl, ?_, ?_, ?_, ?_, ?_⟩
      · simp [flatV]
      · simp [List.getElem?_eq_getElem hlt]
      · simp [eqV]
      · intro m z' hm' hz
        simp only [List.getElem?_map] at hz
        cases hq : ns[m]? with
        | none => rw [hq] at hz; cases hz
        | some w =>
          rw [hq] at hz
          cases hz
          have : w ≠ i := fun q => by
            have h2 := List.not_of_lt_findIdx (p := (· == i)) (xs := ns) (i := m) (by simpa [List.idxOf] using hm')
            obtain ⟨hl', e9⟩ := List.getElem?_eq_some_iff.mp hq
            rw [e9] at h2
            simp [q] at h2
          simpa [eqV] using this
      · exact k _ _ h H (TK.refl H) hh (by simp) z
    · exact φ.elim
  · exact φ.elim⟩
/-! ### d.setdefault(k, v) -/
def kDset3 (y : MV) (k : MV) (p : Addr) (h : MH) (q : QV) : Option MO → Prop := fun o => match o with
  | some (.dK kvs) => kvs.length < sizeLine ∧ (match keyM? k with
    | some kk => (∀ v, valM kvs kk = some v → q v h) ∧ (valM kvs kk = none → q y (h.put p (.dK (putKM kvs kk y))))
    | none => False)
  | _ => False
@[simp ↓] theorem kDset3_i {y : MV} {k : Int} {p : Addr} {h : MH} {q : QV} {kvs : List (Key × MV)} : kDset3 y (.int k) p h q (some (.dK kvs)) = (kvs.length < sizeLine ∧ (∀ v, valM kvs (.inl k) = some v → q v h) ∧ (valM kvs (.inl k) = none → q y (h.put p (.dK (putKM kvs (.inl k) y))))) := rfl
@[simp ↓] theorem kDset3_s {y : MV} {k : Str} {p : Addr} {h : MH} {q : QV} {kvs : List (Key × MV)} : kDset3 y (.str k) p h q (some (.dK kvs)) = (kvs.length < sizeLine ∧ (∀ v, valM kvs (.inr k) = some v → q v h) ∧ (valM kvs (.inr k) = none → q y (h.put p (.dK (putKM kvs (.inr k) y))))) := rfl
def kDset2 (k : MV) (p : Addr) (q : QV) : QV := fun y h => atK h p (kDset3 y k p h q)
@[simp ↓] theorem kDset2_s {k y : MV} {p : Addr} {q : QV} {h : MH} : kDset2 k p q y h = atK h p (kDset3 y k p h q) := rfl
def kDset1 (f : WE) (p : Addr) (ρ : En) (q : QV) (e : QX) : QV := fun k h => f ρ h (kDset2 k p q) e
@[simp ↓] theorem kDset1_s {f : WE} {p : Addr} {ρ : En} {q : QV} {e : QX} {k : MV} {h : MH} : kDset1 f p ρ q e k h = f ρ h (kDset2 k p q) e := rfl
def isDk (p : Addr) (h : MH) : Prop := ∃ kvs, h.at_ p = some (.dK kvs)
def kDset0b (a f : WE) (p : Addr) (ρ : En) (h : MH) (q : QV) (e : QX) : Option MO → Prop := fun o => match o with
  | some (.dK _) => a ρ h (kDset1 f p ρ q e) e
  | _ => False
@[simp ↓] theorem kDset0b_s {a f : WE} {p : Addr} {ρ : En} {h : MH} {q : QV} {e : QX} {kvs : List (Key × MV)} : kDset0b a f p ρ h q e (some (.dK kvs)) = a ρ h (kDset1 f p ρ q e) e := rfl
def kDset0 (a f : WE) (ρ : En) (q : QV) (e : QX) : QV := fun x h => match x with
  | .ref p => atK h p (kDset0b a f p ρ h q e)
  | _ => False
@[simp ↓] theorem kDset0_s {a f : WE} {p : Addr} {ρ : En} {h : MH} {q : QV} {e : QX} : kDset0 a f ρ q e (.ref p) h = atK h p (kDset0b a f p ρ h q e) := rfl
def wDset (o a f : WE) : WE := fun ρ h q e => o ρ h (kDset0 a f ρ q e) e
@[simp ↓] theorem wDset_s {o a f : WE} {ρ : En} {h : MH} {q : QV} {e : QX} : wDset o a f ρ h q e = o ρ h (kDset0 a f ρ q e) e := rfl
theorem key_okM {K : PySem.W.Frag} {H : Hp} {k : MV} {v : V} {kk : Key} (r : VR K H k v) (e : keyM? k = some kk) : v = kV kk := by
  cases k <;> simp [keyM?] at e <;> subst e <;> simpa [kV] using r
theorem se_dset {X : Cx} {o e f : Expr} {apos cpos : Pos} {wo wa wf : WE} (ho : SE X o wo) (he : SE X e wa) (hf : SE X f wf) (m : M2 X o "setdefault" apos e f cpos := by exact ⟨rfl, rfl, rfl, rfl⟩) : SE X (.Call (.Attribute o "setdefault" apos) [e, f] [] cpos) (wDset wo wa wf) :=
  PE.imp (pe_dsetd ho he hf m) fun σ H Q ⟨ρ, h, q, e, sr, hr, tk, w, k⟩ => ⟨ρ, h, _, e, sr, hr, tk, w, fun x v h1 H1 t1 r1 v1 w1 => by
    cases x with
    | ref p =>
      have w1 : atK h1 p (kDset0b wa wf p ρ h1 q e) := w1
      unfold atK kDset0b at w1
      split at w1
      · rename_i kvs0 e0
        obtain ⟨gs0, g0, _⟩ := r1.ob p _ e0
        simp at v1
        subst v1
        refine ⟨p, rfl, .inl ⟨gs0, .inl g0⟩, ρ, h1, _, e, sr.tk t1, r1, tk_mono t1 tk, w1, fun kx u h2 H2 t2 r2 v2 w2 => ⟨ρ, h2, _, e, sr.tk (t1.trans t2), r2, tk_mono (t1.trans t2) tk, w2, fun y z h3 H3 t3 r3 v3 w3 => ?_⟩⟩
        have w3 : atK h3 p (kDset3 y kx p h3 q) := w3
        unfold atK kDset3 at w3
        split at w3
        · rename_i kvs ep
          obtain ⟨hl, w3⟩ := w3
          split at w3
          · rename_i kk ek
            obtain ⟨gs, g1, gr⟩ := r3.ob p _ ep
            have hl2 : gs.length < sizeLine := by
              have := congrArg List.length gr.1
              simp only [List.length_map] at this
              omega
            have tt := t1.trans (t2.trans t3)
            refine ⟨gs, kk, g1, (key_okM (VR.tk t3 _ v2) ek), hl2, fun v hv => ?_, fun hn => ?_⟩
            · rcases valM_ok (k := kk) gr with ⟨_, e2⟩ | ⟨x', v', e1, e2, rx⟩
              · rw [hv] at e2; cases e2
              · rw [hv] at e2
                cases e2
                exact k _ _ h3 H3 tt r3 rx (w3.1 _ e1)
            · rcases valM_ok (k := kk) gr with ⟨e1, _⟩ | ⟨x', v', e1, e2, rx⟩
              · have t4 : TK H3 (upd H3 p (.dK (putK gs kk z))) := TK.mut g1 (fun z => z)
                exact k _ _ (h3.put p (.dK (putKM kvs kk y))) _ (tt.trans t4) (r3.set ep t4 ⟨_, upd_same, (pr_put v3 gr).tk t4⟩) (VR.tk t4 _ v3) (w3.2 e1)
              · rw [hn] at e2; cases e2
          · exact w3.elim
        · exact w3.elim
      · exact w1.elim
    | _ => exact w1.elim⟩
/-! ### properties -/
def Pr (P : Program) (w : World) (K : PySem.W.Frag) (mg : Str → Option Value) (base : Heap) (k : Nat) (C : Addr) (f : Str) (Φ : Spec) : Prop :=
  Cls K C ∧ ∃ (p g : Addr) (fd : FuncData), PropOf K C f p g ∧ FnM P w K mg base k g fd ["self"] Φ ∧ Binds K fd ["self"] []
def kProp2 (C : Addr) (Φ : Spec) (x : MV) (h : MH) (q : QV) : Addr → List (Str × MV) → Prop := fun D _ => D = C ∧ Φ [x] h q NoX
@[simp ↓] theorem kProp2_s {C D : Addr} {Φ : Spec} {x : MV} {h : MH} {q : QV} {fs : List (Str × MV)} : kProp2 C Φ x h q D fs = (D = C ∧ Φ [x] h q NoX) := rfl
def kProp1 (C : Addr) (Φ : Spec) (q : QV) : QV := fun x h => insK h x (kProp2 C Φ x h q)
@[simp ↓] theorem kProp1_s {C : Addr} {Φ : Spec} {x : MV} {h : MH} {q : QV} : kProp1 C Φ q x h = insK h x (kProp2 C Φ x h q) := rfl
theorem insK_get {h : MH} {x : MV} {k : Addr → List (Str × MV) → Prop} (z : insK h x k) : ∃ C fs, insM h x = some (C, fs) ∧ k C fs := by
  unfold insK at z
  split at z
  · rename_i C fs e
    exact ⟨C, fs, e, z⟩
  · exact z.elim
def wProp (C : Addr) (Φ : Spec) (o : WE) : WE := fun ρ h q e => o ρ h (kProp1 C Φ q) e
@[simp ↓] theorem wProp_s {C : Addr} {Φ : Spec} {o : WE} {ρ : En} {h : MH} {q : QV} {e : QX} : wProp C Φ o ρ h q e = o ρ h (kProp1 C Φ q) e := rfl
theorem cx_no {P : Program} {w : World} {outer : List PySem.Env} {H : Hp} {s : Shared} {u : Value} {s' : Shared} (h : L2N.CX P w outer H s (fun _ _ _ => False) u s') : False :=
  let ⟨_, _, _, _, _, _, _, _, _, _, _, _, no⟩ := h
  no
section
variable {X : Cx} {P : Program} {w : World} {K : PySem.W.Frag} {mg : Str → Option Value} {base : Heap} {k j : Nat} {C : Addr} {f : Str} {Φ : Spec} {o : Expr} {wo : WE} {pos : Pos}
theorem se_prop (R : Pr P w K mg base j C f Φ) (on : On P w K mg base k X) (he : SE X o wo) (hj : j + 1 ≤ k := by decide) (hb : attributeBase o f X.env (eval o X.env) = eval o X.env := by rfl) : SE X (.Attribute o f pos) (wProp C Φ wo) := by
  obtain ⟨c, p, g, fd, hp, F, bd⟩ := R
  obtain ⟨rfl, rfl, rfl, rfl, rfl, rm, gu⟩ := on
  refine ⟨fun pins s σ H Q I ⟨ρ, h, q, e, sr, hr, tk, w, kk⟩ => ?_⟩
  refine attr_of hb (thn (he.run pins s σ H (fun x H1 => ∃ xm a dx gs h1, TK H H1 ∧ HR X.K h1 H1 ∧ x = .ref a ∧ H1 a = some (.ins C dx gs) ∧ VR X.K H1 xm x ∧ Φ [xm] h1 q NoX) I ⟨ρ, h, _, e, sr, hr, tk, w, fun x v h1 H1 t1 r1 v1 w1 => ?_⟩) fun u s1 ⟨x, H1, I1, rx, xm, a, dx, gs, h1, t1, r1, ex, g1, vx, φ⟩ => ?_)
  · obtain ⟨D, fs, e1, rfl, φ⟩ := insK_get (show insK h1 x (kProp2 C Φ x h1 q) from w1)
    obtain ⟨p, dx, gs, e0, g1, _⟩ := ins_ok r1 v1 e1
    exact ⟨x, p, dx, gs, h1, t1, r1, e0, g1, v1, φ⟩
  · subst ex
    cases (show u = .ref a from rx)
    obtain ⟨mA, O, _, _, _, _⟩ := ins_get I1.hok g1
    obtain ⟨od, J, _⟩ := O.look
    have I2 := I1.tok (s1.toks + 1)
    have cls : (PySem.W.clsIn X.K C).isSome = true := by rw [(PySem.W.any_some c.hd).choose_spec.1]; rfl
    refine PySem.W.get_bind I1.kIn J (PySem.W.plainGet_of (c.get f)).1 (PySem.W.findObj_data cls hp.at_ hp.get hp.tak) (PySem.W.plainGet_of (c.get f)).2 (wpAny_call (PySem.W.prop_get (s := { s1 with toks := s1.toks + 1 }) I1.kIn hp.rec_.choose_spec ?_))
    have hsp : LSp X.K Φ [.ref a] H1 Q fun _ _ _ => False := ⟨[xm], h1, q, NoX, VRs_cons.mpr ⟨_, _, rfl, vx, by simp⟩, r1, φ, fun mv v h' H' t hh vr z => kk mv v h' H' (t1.trans t) hh vr z, fun _ _ _ _ _ _ _ _ z => z⟩
    refine codeAny_mono (F.run X.A.in1 X.stack { s1 with toks := s1.toks + 1 } H1 ⟨[.ref a], []⟩ [.ref a] [.ref a] Q _ ((rm.mono hj).in1) gu I2.env0.in1 (bd _ [.ref a] I2.kIn rfl) (.cons rfl .nil) hsp) fun r s' hq => ?_
    rcases cr_ends hq with ⟨u, rfl, z⟩ | ⟨u, rfl, z⟩
    · obtain ⟨v, H', J, rv, z⟩ := I2.after z
      show wpAny (model X.prog X.w) X.A (handedOut u) (EP X pins σ Q) X.xe s'
      exact (PySem.W.handedOut_of (handed_of rv)) ▸ wpAny_pure ⟨v, H', J, rv, z⟩
    · exact (cx_no z).elim
end
/-! ### len of an own object, own != -/
def kLenR (q : QV) : QV := fun v h => match v with
  | .int i => 0 ≤ i ∧ i ≤ sizeLine ∧ q (.int i) h
  | _ => False
@[simp ↓] theorem kLenR_s {q : QV} {i : Int} {h : MH} : kLenR q (.int i) h = (0 ≤ i ∧ i ≤ sizeLine ∧ q (.int i) h) := rfl
def kLenO (C : Addr) (Φ : Spec) (x : MV) (h : MH) (q : QV) : Addr → List (Str × MV) → Prop := fun D _ => D = C ∧ Φ [x] h (kLenR q) NoX
@[simp ↓] theorem kLenO_s {C D : Addr} {Φ : Spec} {x : MV} {h : MH} {q : QV} {fs : List (Str × MV)} : kLenO C Φ x h q D fs = (D = C ∧ Φ [x] h (kLenR q) NoX) := rfl
def spLenO (C : Addr) (Φ : Spec) : Spec := fun args h q _ => match args with
  | [x] => insK h x (kLenO C Φ x h q)
  | _ => False
@[simp ↓] theorem spLenO_s {C : Addr} {Φ : Spec} {x : MV} {h : MH} {q : QV} {e : QX} : spLenO C Φ [x] h q e = insK h x (kLenO C Φ x h q) := rfl
section
variable {X : Cx} {P : Program} {w : World} {K : PySem.W.Frag} {mg : Str → Option Value} {base : Heap} {k j : Nat} {C f : Addr} {Φ : Spec}
theorem cm_lenO (hs : PySem.W.findIn K (.ref C) "__len__" = some (some (.ref f))) (hf : PySem.W.isFn K (.ref f) = true) (on : On P w K mg base k X) (F : ∀ X : Cx, On P w K mg base j X → CallM X (.ref f) Φ) (hj : j + 1 ≤ k := by decide) : CallM X (.builtin "len") (spLenO C Φ) := by
  have c := (F (cin X) ((on.mono hj).in1)).q1
  obtain ⟨rfl, rfl, rfl, rfl, rfl, rm, gu⟩ := on
  intro pins s σ H ρ h args vs us q e Q I sr hh tk va vv φ kk
  unfold spLenO at φ
  split at φ
  · rename_i x
    · obtain ⟨D, fs, ep, rfl, φ2⟩ := insK_get φ
      obtain ⟨v, e1, rv⟩ := va.one
      subst e1
      obtain ⟨p, dx, gs, e0, g1, _⟩ := ins_ok hh rv ep
      subst e0
      rw [Vals.ref1 vv]
      obtain ⟨mA, J, _⟩ := ins_get I.hok g1
      obtain ⟨od, J, _⟩ := J.look
      obtain ⟨m, hF⟩ := I.fr
      refine PySem.W.len_K hF I.ok.mod.kin J hs hf ?_
      refine wpAny_mono (c pins s σ H h [x] [.ref p] [.ref p] _ (fun v H' => ∃ n : Int, v = .int n ∧ 0 ≤ n ∧ n ≤ sizeLine ∧ Q v H') I hh (VRs_cons.mpr ⟨_, _, rfl, rv, by simp⟩) (.cons rfl .nil) φ2 fun mv v h' H' t' r' vv z => by
        unfold kLenR at z
        split at z
        · obtain ⟨h0, hn, z⟩ := z
          have vv' := vv
          simp at vv
          subst vv
          exact ⟨_, rfl, h0, hn, kk _ _ h' H' t' r' (by simp) z⟩
        · exact z.elim) (fun r s' z => ?_) fun _ _ z => z
      obtain ⟨v', H', I', rv, n, e5, h0, hn, z⟩ := z
      subst e5
      obtain ⟨t, rfl⟩ := rv
      exact ⟨⟨h0, by have : (sizeLine : Int) < 2 ^ 63 := by decide
                     omega⟩, (show EP X pins σ Q (.int n s'.toks) { s' with toks := s'.toks + 1 } from ⟨V.int n, H', I'.tok _, (⟨_, rfl⟩ : RelV (.int n) (.int n s'.toks)), z⟩)⟩
  · exact φ.elim
theorem op_neO {own : List Addr} (o : On P w K mg base k X) (hj : j + 1 ≤ k) (isi : IsiOk K (isiT own)) (ho : ∀ D ∈ own, InsC K D) (E : EqC K C f own) (F : ∀ X : Cx, On P w K mg base j X → CallM X (.ref f) Φ) :
    OpR X (compareOp .NotEq) (rOwn X (bEqO C own fun a h q e => Φ a h (fun v h' => ∃ b, v = .bl b ∧ q (.bl (!b)) h') e)) := by
  have c := (F (cin X) ((o.mono hj).in1)).q1
  obtain ⟨rfl, rfl, rfl, rfl, rfl, rm, gu⟩ := o
  rintro pins s σ H x y v u Q I rx ry ⟨mx, my, h, q, hh, vx, vy, b, kk⟩
  · obtain ⟨fs, e1, ⟨t, e2, e3⟩, φ⟩ := b
    obtain ⟨p, dx, gs, e0, g1, _⟩ := ins_ok hh vx e1
    subst e0
    obtain ⟨mA, J, _⟩ := ins_get I.hok g1
    obtain ⟨od, J, _⟩ := J.look
    obtain ⟨m, hF⟩ := I.fr
    cases (show v = .ref p from rx)
    obtain ⟨Pr, kx, kp, _⟩ := kit_of I ry (tyx_ok hh vy e2 fun D e => ho D (e3 D e))
    have L := kx.ty (model X.prog X.w) s.heap I.kIn kp
    have nf : PySem.W.notFirst X.K C t = true := by
      cases t with
      | type a => exact E.nf a (typM_ty e2)
      | ref D => exact E.nfo D (e3 D rfl)
      | _ =>
        exfalso
        cases my with
        | ref p' =>
          simp only [typM] at e2
          split at e2 <;> cases e2
        | _ => cases e2
    show wpAny (model X.prog X.w) X.A (richCompare .NotEq (.ref p) u) (EP X pins σ Q) X.xe s
    refine ne_K (by have := rm.un; omega) hF I.ok.mod.kin J L nf E.eq E.ne E.mo E.fn ?_
    refine wpAny_mono (c pins s σ H h [mx, my] [.ref p, y] [.ref p, u] _ (fun v H' => ∃ b, v = .bl b ∧ Q (.bl (!b)) H') I hh (VRs_cons.mpr ⟨_, _, rfl, vx, VRs_cons.mpr ⟨_, _, rfl, vy, by simp⟩⟩) (.cons rfl (.cons ry .nil)) φ fun mv v h' H' t' r' vv ⟨b, e4, b2, e5, z⟩ => by
      subst e4
      have vv' := vv
      simp at vv
      subst vv
      cases e5
      exact ⟨_, rfl, kk _ _ h' H' t' r' (by simp) z⟩) (fun r s' z => ?_) fun _ _ z => z
    obtain ⟨v', H', I', rv, b, e5, z⟩ := z
    subst e5
    obtain rfl : r = Value.bool b := rv
    exact ⟨b, rfl, (show EP X pins σ Q (.bool (!b)) s' from ⟨V.bl (!b), H', I', (rfl : RelV (.bl (!b)) (.bool (!b))), z⟩)⟩
end
end MM
end
section
namespace MM
open PySem PySem.Spec PyProof.Rows L2
/-! ### repr -/
def spRepr : Spec := fun args h q _ => match args with
  | [x] => ∃ d, DT h d x ∧ d.showable = true ∧ SeqAt.shaped d = true ∧ d.shown.length ≤ sizeLine ∧ q (.str d.shown) h
  | _ => False
theorem rp_i {x : MV} {h : MH} {q : QV} {e : QX} (d : PyData) (t : DT h d x) (s1 : d.showable = true) (s2 : SeqAt.shaped d = true) (s3 : d.shown.length ≤ sizeLine) (z : q (.str d.shown) h) : spRepr [x] h q e := ⟨d, t, s1, s2, s3, z⟩
theorem cm_repr {X : Cx} (hu : X.A.units + 66 < cLine) (hg : X.A.guards = some []) : CallM X (.builtin "repr") spRepr := by
  intro pins s σ H ρ h args vs us q e Q I sr hh tk va vv φ kk
  unfold spRepr at φ
  split at φ
  · rename_i x
    obtain ⟨d, t, s1, s2, s3, z⟩ := φ
    obtain ⟨v, e1, rv⟩ := va.one
    subst e1
    obtain ⟨u, rfl, ru⟩ := vals1 vv
    have dp := t.dp hh d rv
    obtain ⟨as, r⟩ := Dp.reads I d v u dp ru
    have nd : d.hasDict = false := PyData.hasDict_of_canLay d (SeqAt.canLay_of_shaped s2)
    have dd := SeqAt.depth_of_shaped s2
    have fin : ∀ (s' : Shared) (u' : Tok), Inv X pins σ H s' → EP X pins σ Q (.str d.shown u') s' := fun s' u' I' => ⟨V.str d.shown, H, I', (⟨u', rfl⟩ : RelV (.str d.shown) (.str d.shown u')), kk _ _ h H (TK.refl H) hh (by simp) z⟩
    cases r with
    | none => exact PySem.P.repr_of_none (fin _ _ (I.tok _))
    | bool b => exact PySem.P.repr_of_bool (by simpa [PyData.shown] using fin _ _ (I.tok _))
    | int i t => exact PySem.P.repr_of_int (by simpa [PyData.showable] using s1) (fin _ _ (I.tok _))
    | str x t => exact PySem.P.repr_of_str (fin _ _ (I.tok _)) s3
    | _ => exact repr_of_reads' (by constructor <;> assumption) s1 (PyData.noDict_hsm nd) hg (by omega) (fun _ _ e => e) (fun h' u' tk' hk => fin _ u' (I.kept (t' := tk') hk)) s3
  · exact φ.elim
/-! ### values without lists: what they show -/
mutual
def dM : MV → PyData
  | .bl b => .bool b
  | .int i => .int i
  | .str x => .str x
  | .tup xs => .tuple (dMs xs)
  | .lis xs => .list (dMs xs)
  | _ => .none
def dMs : List MV → List PyData
  | [] => []
  | x :: xs => dM x :: dMs xs
end
mutual
def flt : MV → Bool
  | .non => true | .bl _ => true | .int _ => true | .str _ => true
  | .tup xs => flts xs
  | .lis xs => flts xs
  | _ => false
def flts : List MV → Bool
  | [] => true
  | x :: xs => flt x && flts xs
end
mutual
theorem dt_dM {h : MH} : ∀ x : MV, flt x = true → DT h (dM x) x
  | .non, _ => by simp only [dM, DT]
  | .bl _, _ => by simp only [dM, DT]
  | .int _, _ => by simp only [dM, DT]
  | .str _, _ => by simp only [dM, DT]
  | .tup xs, f => by
    simp only [dM, DT]
    exact ⟨xs, rfl, dts_dM xs (by simpa only [flt] using f)⟩
  | .ref _, f => by simp [flt] at f
  | .ty _, f => by simp [flt] at f
  | .obj _ _ _, f => by simp [flt] at f
  | .err _ _ _ _ _, f => by simp [flt] at f
  | .slc _ _ _, f => by simp [flt] at f
  | .lis xs, f => by
    simp only [dM, DT]
    exact .inl ⟨xs, rfl, dts_dM xs (by simpa only [flt] using f)⟩
theorem dts_dM {h : MH} : ∀ xs : List MV, flts xs = true → DTs h (dMs xs) xs
  | [], _ => by simp only [dMs, DTs]
  | x :: xs, f => by
    simp only [flts, Bool.and_eq_true] at f
    simp only [dMs, DTs]
    exact ⟨x, xs, rfl, dt_dM x f.1, dts_dM xs f.2⟩
end
end MM
end
section
namespace MM
open PySem PySem.Spec PyProof.Rows L2
section
variable {X : Cx} {k j : Nat} {x m : Str} {Φ : Spec} {C f : Addr} {p pos apos : Pos} {e o a b : Expr} {es : List Expr} {wa : WA} {wo w1 w2 : WE} {P : Program} {w : World} {K : PySem.W.Frag} {mg : Str → Option Value} {base : Heap}
theorem hu1 (o : On P w K mg base k X) : X.A.units + 1 < cLine := by have := o.room.un; omega
theorem hu64 (o : On P w K mg base k X) : X.A.units + 64 < cLine := by have := o.room.un; omega
theorem hu66 (o : On P w K mg base k X) : X.A.units + 66 < cLine := by have := o.room.un; omega
theorem se_me {pl : Sem Bool} (M : Me P w K mg base j C m Φ) (on : On P w K mg base k X) (he : SE X o wo) (ha : SA X (e :: es) wa) (hj : j ≤ k := by decide) (hst : starEach (e :: es) X.env = (false, eval e X.env) :: starEach es X.env := by rfl)
    (hpl : (backTo pos (starEach es X.env)).any (·.1) = false := by rfl) (ht : eval (.Call (.Attribute o m apos) (e :: es) [] pos) X.env = mcall pl o m apos (e :: es) pos X.env := by rfl) : SE X (.Call (.Attribute o m apos) (e :: es) [] pos) (wMeth C m Φ wo wa) := by
  obtain ⟨c, f, hm, F⟩ := M
  have cc := F X (on.mono hj)
  obtain ⟨rfl, rfl, rfl, rfl, rfl, r, g⟩ := on
  exact se_meth c hm cc he ha hst hpl ht
theorem se_me0 {pl : Sem Bool} (M : Me P w K mg base j C m Φ) (on : On P w K mg base k X) (he : SE X o wo) (hj : j ≤ k := by decide) (ht : eval (.Call (.Attribute o m apos) [] [] pos) X.env = mcall pl o m apos [] pos X.env := by rfl) :
    SE X (.Call (.Attribute o m apos) [] [] pos) (wMeth C m Φ wo wNil) := by
  obtain ⟨c, f, hm, F⟩ := M
  have cc := F X (on.mono hj)
  obtain ⟨rfl, rfl, rfl, rfl, rfl, r, g⟩ := on
  exact se_meth0 c hm cc he ht
/-- own == as a class's -/
structure EqO (P : Program) (w : World) (K : PySem.W.Frag) (mg : Str → Option Value) (base : Heap) (k : Nat) (C : Addr) (own : List Addr) (Φ : Spec) : Prop where
  isi : IsiOk K (isiT own)
  ins : ∀ D ∈ own, InsC K D
  ex : ∃ f, EqC K C f own ∧ ∀ X : Cx, On P w K mg base k X → CallM X (.ref f) Φ
def neS (Φ : Spec) : Spec := fun a h q e => Φ a h (fun v h' => ∃ b, v = .bl b ∧ q (.bl (!b)) h') e
variable {own : List Addr}
theorem se_eqs (E : EqO P w K mg base j C own Φ) (on : On P w K mg base k X) (ha : SE X a w1) (hb : SE X b w2) (hj : j ≤ k := by decide) (hm : behindInMarks .Eq b = false := by with_unfolding_all rfl) : SE X (.Compare a [.Eq] [b] pos) (wBin (bEqO C own Φ) w1 w2) := by
  obtain ⟨f, e, F⟩ := E.ex
  exact se_cmp (b2_own fun x y h q e z => z) (op_eqO on hj E.isi E.ins e F) ha hb hm
theorem se_nes (E : EqO P w K mg base j C own Φ) (on : On P w K mg base k X) (ha : SE X a w1) (hb : SE X b w2) (hj : j + 1 ≤ k := by decide) (hm : behindInMarks .NotEq b = false := by with_unfolding_all rfl) : SE X (.Compare a [.NotEq] [b] pos) (wBin (bEqO C own (neS Φ)) w1 w2) := by
  obtain ⟨f, e, F⟩ := E.ex
  exact se_cmp (b2_own fun x y h q e z => z) (op_neO on hj E.isi E.ins e F) ha hb hm
theorem st_eqs (E : EqO P w K mg base j C own Φ) (on : On P w K mg base k X) (ha : SE X a w1) (hb : SE X b w2) (hj : j ≤ k := by decide) (hm : behindInMarks .Eq b = false := by with_unfolding_all rfl) : ST X (.Compare a [.Eq] [b] pos) (wTB (wBin (bEqO C own Φ) w1 w2)) := by
  obtain ⟨f, e, F⟩ := E.ex
  exact st_cmp (b2_own fun x y h q e z => z) (op_eqO on hj E.isi E.ins e F) ha hb hm
theorem st_nes (E : EqO P w K mg base j C own Φ) (on : On P w K mg base k X) (ha : SE X a w1) (hb : SE X b w2) (hj : j + 1 ≤ k := by decide) (hm : behindInMarks .NotEq b = false := by with_unfolding_all rfl) : ST X (.Compare a [.NotEq] [b] pos) (wTB (wBin (bEqO C own (neS Φ)) w1 w2)) := by
  obtain ⟨f, e, F⟩ := E.ex
  exact st_cmp (b2_own fun x y h q e z => z) (op_neO on hj E.isi E.ins e F) ha hb hm
/-- reading == of own objects -/
def kEqR (q : QV) : QV := fun v h => match v with | .bl b => q (.bl b) h | _ => False
def kNeR (q : QV) : QV := fun v h => match v with | .bl b => q (.bl (!b)) h | _ => False
@[simp ↓] theorem kEqR_s {q : QV} {b : Bool} {h : MH} : kEqR q (.bl b) h = q (.bl b) h := rfl
@[simp ↓] theorem kNeR_s {q : QV} {b : Bool} {h : MH} : kNeR q (.bl b) h = q (.bl (!b)) h := rfl
theorem kEqR_eq {q : QV} : (fun v h => ∃ b, v = MV.bl b ∧ q (.bl b) h) = kEqR q := by
  funext v h
  cases v with
  | bl b => exact propext ⟨fun ⟨b', e, z⟩ => by cases e; exact z, fun z => ⟨b, rfl, z⟩⟩
  | _ => exact propext ⟨fun ⟨_, e, _⟩ => (by cases e), fun z => z.elim⟩
theorem kNeR_eq {q : QV} : (fun v h => ∃ b, v = MV.bl b ∧ q (.bl (!b)) h) = kNeR q := by
  funext v h
  cases v with
  | bl b => exact propext ⟨fun ⟨b', e, z⟩ => by cases e; exact z, fun z => ⟨b, rfl, z⟩⟩
  | _ => exact propext ⟨fun ⟨_, e, _⟩ => (by cases e), fun z => z.elim⟩
@[simp ↓] theorem neS_s {Φ : Spec} {a : List MV} {h : MH} {q : QV} {e : QX} : neS Φ a h q e = Φ a h (kNeR q) e := by
  unfold neS
  rw [kNeR_eq]
def kEqT (own : List Addr) (Φ : Spec) (x y : MV) (h : MH) (q : QV) : Value → Prop := fun t => (∀ D, t = .ref D → D ∈ own) ∧ Φ [x, y] h (fun v h' => ∃ b, v = .bl b ∧ q (.bl b) h') NoX
@[simp ↓] theorem kEqT_t {own : List Addr} {Φ : Spec} {x y : MV} {h : MH} {q : QV} {n : String} : kEqT own Φ x y h q (.type n) = Φ [x, y] h (kEqR q) NoX := by
  rw [← kEqR_eq]
  exact propext ⟨fun z => z.2, fun z => ⟨fun _ e => (by cases e), z⟩⟩
@[simp ↓] theorem kEqT_r {own : List Addr} {Φ : Spec} {x y : MV} {h : MH} {q : QV} {D : Addr} : kEqT own Φ x y h q (.ref D) = (D ∈ own ∧ Φ [x, y] h (kEqR q) NoX) := by
  rw [← kEqR_eq]
  exact propext ⟨fun z => ⟨z.1 D rfl, z.2⟩, fun z => ⟨fun _ e => by cases e; exact z.1, z.2⟩⟩
def kEqI (C : Addr) (own : List Addr) (Φ : Spec) (x y : MV) (h : MH) (q : QV) : Addr → List (Str × MV) → Prop := fun D _ => D = C ∧ typK h y (kEqT own Φ x y h q)
@[simp ↓] theorem kEqI_s {C D : Addr} {own : List Addr} {Φ : Spec} {x y : MV} {h : MH} {q : QV} {fs : List (Str × MV)} : kEqI C own Φ x y h q D fs = (D = C ∧ typK h y (kEqT own Φ x y h q)) := rfl
@[simp ↓] theorem bEqO_s {x y : MV} {h : MH} {q : QV} {e : QX} : bEqO C own Φ x y h q e = insK h x (kEqI C own Φ x y h q) := by
  have e2 : bEqO C own Φ x y h q e = (∃ fs, insM h x = some (C, fs) ∧ typK h y (kEqT own Φ x y h q)) := by
    unfold bEqO typK
    refine congrArg _ (funext fun fs => ?_)
    refine congrArg _ ?_
    cases typM h y with
    | none => exact propext ⟨fun ⟨⟨_, z, _⟩, _⟩ => (by cases z), fun z => z.elim⟩
    | some t => exact propext ⟨fun ⟨⟨t', z, a⟩, b⟩ => by cases z; exact ⟨a, b⟩, fun ⟨a, b⟩ => ⟨⟨t, rfl, a⟩, b⟩⟩
  rw [e2]
  exact insK_eq
/-- len of an own object -/
structure LenO (P : Program) (w : World) (K : PySem.W.Frag) (mg : Str → Option Value) (base : Heap) (k : Nat) (C : Addr) (Φ : Spec) : Prop where
  ex : ∃ f, PySem.W.findIn K (.ref C) "__len__" = some (some (.ref f)) ∧ PySem.W.isFn K (.ref f) = true ∧ ∀ X : Cx, On P w K mg base k X → CallM X (.ref f) Φ
theorem se_lens (L : LenO P w K mg base j C Φ) (on : On P w K mg base k X) (hm : mg "len" = none) (ha : SA X (e :: es) wa) (hg : Gl X "len" := by rfl) (hj : j + 1 ≤ k := by decide)
    (he : starEach (e :: es) X.env = (false, eval e X.env) :: starEach es X.env := by rfl) (hpl : (backTo pos (starEach es X.env)).any (·.1) = false := by rfl) : SE X (.Call (.Name "len" p) (e :: es) [] pos) (wCall (spLenO C Φ) wa) := by
  obtain ⟨f, h1, h2, F⟩ := L.ex
  have c := cm_lenO h1 h2 on F hj
  obtain ⟨rfl, rfl, rfl, rfl, rfl, r, g⟩ := on
  exact se_callB c hm (by decide +kernel) hg ha (by decide) (by decide) he hpl
end
/-! ### xs.pop(i) -/
def kPopAt (i : Int) (p : Addr) (h : MH) (q : QV) : Option MO → Prop := fun o => match o with
  | some (.lst xs) => 0 ≤ i ∧ i < xs.length ∧ xs.length ≤ sizeLine ∧ ∀ y, xs[i.toNat]? = some y → q y (h.put p (.lst (xs.eraseIdx i.toNat)))
  | _ => False
@[simp ↓] theorem kPopAt_s {i : Int} {p : Addr} {h : MH} {q : QV} {xs : List MV} : kPopAt i p h q (some (.lst xs)) = (0 ≤ i ∧ i < xs.length ∧ xs.length ≤ sizeLine ∧ ∀ y, xs[i.toNat]? = some y → q y (h.put p (.lst (xs.eraseIdx i.toNat)))) := rfl
def mPopAt : MSpec := fun x args h q _ => match x, args with
  | .ref p, [.int i] => atK h p (kPopAt i p h q)
  | _, _ => False
@[simp ↓] theorem mPopAt_s {p : Addr} {i : Int} {h : MH} {q : QV} {e : QX} : mPopAt (.ref p) [.int i] h q e = atK h p (kPopAt i p h q) := rfl
theorem VRs.eraseIdx {K : PySem.W.Frag} {H : Hp} {xs : List MV} {vs : List V} (r : VRs K H xs vs) (n : Nat) : VRs K H (xs.eraseIdx n) (vs.eraseIdx n) := by
  rw [List.eraseIdx_eq_take_drop_succ, List.eraseIdx_eq_take_drop_succ]
  exact (r.take n).append (r.drop (n + 1))
theorem ok_popAt {X : Cx} : MtOk X "list" rPopAt isLst mPopAt := ⟨lst_ty, fun x args v vs h H q e Q hh rx ra φ k => by
  unfold mPopAt at φ
  split at φ
  · rename_i p i
    unfold atK kPopAt at φ
    split at φ
    · rename_i xs ep
      obtain ⟨h0, h1, h2, z⟩ := φ
      obtain ⟨us, g, rs⟩ := hh.ob _ _ ep
      simp at rx
      subst rx
      obtain ⟨y, e2, ry⟩ := ra.one
      subst e2
      simp at ry
      subst ry
      have hl : i.toNat < xs.length := by omega
      obtain ⟨u, e3, ru⟩ := rs.get (List.getElem?_eq_getElem hl)
      have t : TK H (upd H p (.lst (us.eraseIdx i.toNat))) := TK.mut g (fun z => z)
      have hs : (sizeLine : Int) < 2 ^ 63 := by decide
      refine ⟨p, us, i, i.toNat, u, rfl, rfl, g, by omega, by omega, ?_, e3, ?_⟩
      · rw [← rs.length]
        unfold seqIndex?
        simp
        omega
      · exact k _ _ (h.put p (.lst (xs.eraseIdx i.toNat))) _ t (hh.set ep t ⟨_, upd_same, (rs.eraseIdx _).tk t _⟩) (VR.tk t _ ru) (z _ (List.getElem?_eq_getElem hl))
    · exact φ.elim
  · exact φ.elim⟩
/-! ### sorted(list of whole numbers) -/
def kSrtI (h : MH) (q : QV) : List MV → Prop := fun xs => ∃ ns : List Int, xs = ns.map MV.int ∧ ∀ out : List Int, out.Perm ns → out.Pairwise (· ≤ ·) → newL h (.lst (out.map MV.int)) q
def spSrtI : Spec := fun args h q _ => match args with
  | [.ref p] => seqK h (.ref p) (kSrtI h q)
  | _ => False
@[simp ↓] theorem spSrtI_s {p : Addr} {h : MH} {q : QV} {e : QX} : spSrtI [.ref p] h q e = seqK h (.ref p) (kSrtI h q) := rfl
theorem cm_srtI {X : Cx} : CallM X (.builtin "sorted") spSrtI := callM_r (fun args vs h H q e Q hh va φ k => by
  unfold spSrtI at φ
  split at φ
  · rename_i p
    rw [← seqK_eq] at φ
    obtain ⟨items, ei, ns, e4, w2⟩ := φ
    obtain ⟨u, e2, ru⟩ := va.one
    subst e2
    obtain ⟨p, us, e3, _, _⟩ := seq_ok hh ru ei
    subst e3
    obtain ⟨ys, sq, rs⟩ := seq_list (fun _ z => by cases z) ru hh ei
    subst e4
    rw [ints_of rs] at sq
    refine ⟨p, ns, rfl, sq, fun out b pm srt nb => ?_⟩
    have t3 := TK.new (o := .lst (out.map V.int)) nb
    exact k _ _ (h.put b (.lst (out.map MV.int))) _ t3 (hh.new nb ⟨_, upd_same, VRs.ints out⟩) (by simp) (w2 out pm srt b (hh.free nb))
  · exact φ.elim) cr_sortedI
/-! ### tuple(range(n)) -/
def rgM (n : Nat) : List MV := (List.range n).map fun i => .int (i : Nat)
theorem rg_ok {K : PySem.W.Frag} {H : Hp} {i : Int} (h0 : 0 ≤ i) : VRs K H (rgM i.toNat) (rgV 0 i) := by
  have e : rgV 0 i = (List.range i.toNat).map fun j => V.int ((j : Nat) : Int) := by
    simp [rgV]
  rw [e]
  unfold rgM
  generalize List.range i.toNat = l
  induction l with
  | nil => simp
  | cons a l ih => exact VRs_cons.mpr ⟨_, _, rfl, by simp, ih⟩
def kTupRg (q : QV) : QV := fun x h => match x with
  | .int i => 0 ≤ i ∧ i ≤ 1000 ∧ q (.tup (rgM i.toNat)) h
  | _ => False
@[simp ↓] theorem kTupRg_s {q : QV} {i : Int} {h : MH} : kTupRg q (.int i) h = (0 ≤ i ∧ i ≤ 1000 ∧ q (.tup (rgM i.toNat)) h) := rfl
def wTupRg (a : WE) : WE := fun ρ h q e => a ρ h (kTupRg q) e
@[simp ↓] theorem wTupRg_s {a : WE} {ρ : En} {h : MH} {q : QV} {e : QX} : wTupRg a ρ h q e = a ρ h (kTupRg q) e := rfl
theorem se_tupRg {X : Cx} {a : Expr} {wa : WE} {p1 p2 pos1 pos2 : Pos} (hc : X.calm = true) (hm : X.mg "tuple" = none) (hm2 : X.mg "range" = none) (hg : Gl X "tuple") (hg2 : Gl X "range") (h : SE X a wa)
    (na : starEach [a] X.env = (false, eval a X.env) :: starEach [] X.env := by rfl)
    (nb : starEach [Expr.Call (.Name "range" p2) [a] [] pos2] X.env = (false, eval (Expr.Call (.Name "range" p2) [a] [] pos2) X.env) :: starEach [] X.env := by rfl) :
    SE X (.Call (.Name "tuple" p1) [.Call (.Name "range" p2) [a] [] pos2] [] pos1) (wTupRg wa) :=
  PE.imp (pe_tupRg hc hg hm (prg_1 hg2 hm2 h na) nb) fun σ H Q ⟨ρ, h, q, e, sr, hr, tk, w, k⟩ => ⟨ρ, h, _, e, sr, hr, tk, w, fun x v h1 H1 t1 r1 v1 w1 => by
    have w1 : kTupRg q x h1 := w1
    unfold kTupRg at w1
    split at w1
    · rename_i _ i _
      obtain ⟨h0, h1', w1⟩ := w1
      simp at v1
      subst v1
      refine ⟨_, rfl, RgOk.of_le (Int.le_refl 0) (by omega) (by omega) h0, fun p np => ?_⟩
      have t2 := TK.new (o := .tup (rgV 0 i)) np
      exact k _ _ h1 _ (t1.trans t2) (r1.new' np) (VR_tup.mpr ⟨p, _, rfl, SqT.of upd_same, (rg_ok h0)⟩) w1
    · exact w1.elim⟩
end MM
end
section
namespace MM
open PySem PySem.Spec PyProof.Rows L2
/-- how the parameters bind where the last ones are defaults -/
def BindD (x qual : Str) (st : Stmt) (ps : List Str) (n j m : Nat) : Prop := ∀ (T : Addr) (kV doc pm : Value) (an : Option Addr) (cdv ct : Value) (us its : List Value), us.length = n → its.length = m →
  ∃ k, bindArgs (PySem.W.fnOf x qual (defArgs st) (defBody st) (defScope st) (.ref T) kV doc pm an cdv ct) ⟨us, []⟩ = seqItems? (.ref T) >>= k ∧ k (some its.toArray) = pure (ps.zip (us ++ its.drop j))
section
variable {P : Program} {w : World} {K : PySem.W.Frag} {mg : Str → Option Value} {base : Heap} {x qual m : Str} {st : Stmt} {N ps : List Str} {k j n : Nat} {Φ Ψ : Spec} {C : Addr} {dvs : List V} {dms : List MV}
theorem meth_mk {f g : Addr} (M : Meth K C "__init__" f) (I : Mk K C g) : Mk K C f := by
  have e : some (some (Value.ref f)) = some (some (Value.ref g)) := M.at_.symm.trans I.init
  cases e
  exact I
abbrev BodyM (P : Program) (w : World) (K : PySem.W.Frag) (mg : Str → Option Value) (base : Heap) (k : Nat) (qual : Str) (st : Stmt) (N : List Str) (Φ : Spec) : Prop := ∀ (f : Addr) (cdv : Value) (A : Around) (outer : List PySem.Env) (s : Shared) (H : Hp) (E : XK), On P w K mg base k (cxOf (L2N.CX P w) P w K mg base N qual (defScope st) f cdv A outer s H E) →
      ∃ b, SSs (cxOf (L2N.CX P w) P w K mg base N qual (defScope st) f cdv A outer s H E) (defBody st) b ∧ ∀ args h q e, Φ args h q e → b (startM N.length args) h (bodyD q e)
theorem DfM.cl (D : DfM K C "__init__" qual st dvs) (I : ∃ g, Mk K C g) (hm : mg x = some (.ref C)) (S : FnScope N ps (defScope st)) (hb : BindD "__init__" qual st ps n j dvs.length) (hd : dvs ≠ []) (hn : n + (dvs.length - j) = ps.length) (hv : ∀ H, VRs K H dms (dvs.drop j))
    (len : ∀ args h q e, Φ args h q e → args.length = ps.length) (hbody : BodyM P w K mg base k qual st N Φ) : Cl P w K mg base (k + 2) x C (mkSpec C (Φ.dfl dms)) := by
  obtain ⟨f, fd, hf, F⟩ := D
  obtain ⟨g, I⟩ := I
  have M := meth_mk hf I
  have G : FnM P w K mg base (k + 1) f fd ps Φ := fnM F S len fun cdv A outer s H E hr hgu => hbody f cdv A outer s H E ⟨rfl, rfl, rfl, rfl, rfl, hr, hgu⟩
  obtain ⟨ds, rd, b⟩ := F.binds1 n j hd hn hb
  refine ⟨hm, M.kp, fun X o => ?_⟩
  obtain ⟨rfl, rfl, rfl, rfl, rfl, r, g⟩ := o
  exact callM_make M G r g b ⟨hv, rd⟩
theorem DfM.cl0 (D : DfM K C "__init__" qual st []) (I : ∃ g, Mk K C g) (hm : mg x = some (.ref C)) (S : FnScope N ps (defScope st)) (hb : BindN "__init__" qual st ps)
    (len : ∀ args h q e, Φ args h q e → args.length = ps.length) (hbody : BodyM P w K mg base k qual st N Φ) : Cl P w K mg base (k + 2) x C (mkSpec C Φ) := by
  obtain ⟨f, fd, hf, F⟩ := D
  obtain ⟨g, I⟩ := I
  have M := meth_mk hf I
  have G : FnM P w K mg base (k + 1) f fd ps Φ := fnM F S len fun cdv A outer s H E hr hgu => hbody f cdv A outer s H E ⟨rfl, rfl, rfl, rfl, rfl, hr, hgu⟩
  have b := F.bindsN hb
  refine ⟨hm, M.kp, fun X o => ?_⟩
  obtain ⟨rfl, rfl, rfl, rfl, rfl, r, g⟩ := o
  have c := callM_make M G r g b Dfl.nil
  rw [dfl_nil] at c
  exact c
theorem Cl.imp (F : Cl P w K mg base k x C Φ) (h : ∀ a h q e, Ψ a h q e → Φ a h q e) : Cl P w K mg base k x C Ψ := ⟨F.1, F.2.1, fun X o => (F.2.2 X o).imp h⟩
/-- where a property's getter stands -/
def DfP (K : PySem.W.Frag) (C : Addr) (m qual : Str) (st : Stmt) : Prop := ∃ p g fd, PropOf K C m p g ∧ FunD K m qual (defArgs st) (defBody st) (defScope st) [] [] g fd
theorem DfP.pr (D : DfP K C m qual st) (c : Cls K C) (S : FnScope N ["self"] (defScope st)) (hb : BindN m qual st ["self"]) (len : ∀ args h q e, Φ args h q e → args.length = 1) (hbody : BodyM P w K mg base k qual st N Φ) : Pr P w K mg base (k + 1) C m Φ := by
  obtain ⟨p, g, fd, hp, F⟩ := D
  exact ⟨c, p, g, fd, hp, fnM F S len fun cdv A outer s H E hr hgu => hbody g cdv A outer s H E ⟨rfl, rfl, rfl, rfl, rfl, hr, hgu⟩, F.bindsN hb⟩
theorem Me.lenO (M : Me P w K mg base k C "__len__" Φ) : LenO P w K mg base k C Φ := by
  obtain ⟨_, f, m, F⟩ := M
  exact ⟨f, m.at_, m.fn, F⟩
/-- the facts of == at the head -/
structure EqF (K : PySem.W.Frag) (C : Addr) (own : List Addr) : Prop where
  ne : PySem.W.findIn K (.ref C) "__ne__" = some (some (.builtin "object.__ne__"))
  mo : PySem.W.mroIn K C (.type "object") = some true
  nf : ∀ a ∈ names7, PySem.W.notFirst K C (.type a) = true
  nfo : ∀ D ∈ own, PySem.W.notFirst K C (.ref D) = true
theorem Me.eqO {own : List Addr} (M : Me P w K mg base k C "__eq__" Φ) (isi : IsiOk K (isiT own)) (ins : ∀ D ∈ own, InsC K D) (E : EqF K C own) : EqO P w K mg base k C own Φ := by
  obtain ⟨c, f, m, F⟩ := M
  exact ⟨isi, ins, f, ⟨c, m.at_, E.ne, E.mo, m.fn, E.nf, E.nfo⟩, F⟩
end
theorem MH.put_put (h : MH) (a : Addr) (x y : MO) : (h.put a x).put a y = h.put a y := by
  unfold MH.put
  congr 1
  funext b
  by_cases e : b = a <;> simp [e]
end MM
end
section
namespace MM
open PySem PySem.Spec PyProof.Rows L2
/-! ### the head's tests -/
mutual
def relM (K : PySem.W.Frag) : MV → Value → Bool
  | .non, .none => true
  | .bl b, .bool c => b == c
  | .ref p, .ref r => decide (p = r)
  | .ty t, .type c => decide (t = c)
  | .str x, .str z _ => decide (x = z)
  | .int i, .int k _ => decide (i = k)
  | .tup xs, .ref a => (match K.lookup a with
    | some ⟨.type c, _, .seq its _, _⟩ => decide (c = "tuple") && (decide (its.size ≤ sizeLine) && relMs K xs its.toList)
    | _ => false)
  | _, _ => false
def relMs (K : PySem.W.Frag) : List MV → List Value → Bool
  | [], [] => true
  | x :: xs, v :: vs => relM K x v && relMs K xs vs
  | _, _ => false
end
section
variable {K : PySem.W.Frag}
mutual
theorem relM_ok : ∀ (x : MV) {u : Value}, relM K x u = true → ∃ v, RelV v u ∧ ∀ H, VR K H x v
  | .non, u, h => by
    cases u <;> simp [relM] at h
    exact ⟨.non, rfl, fun H => by simp⟩
  | .bl b, u, h => by
    cases u <;> simp [relM] at h
    subst h
    exact ⟨.bl b, rfl, fun H => by simp⟩
  | .int b, u, h => by
    cases u <;> simp [relM] at h
    subst h
    exact ⟨.int b, ⟨_, rfl⟩, fun H => by simp⟩
  | .str b, u, h => by
    cases u <;> simp [relM] at h
    subst h
    exact ⟨.str b, ⟨_, rfl⟩, fun H => by simp⟩
  | .ref b, u, h => by
    cases u <;> simp [relM] at h
    subst h
    exact ⟨.ref b, rfl, fun H => by simp⟩
  | .ty b, u, h => by
    cases u <;> simp [relM] at h
    subst h
    exact ⟨.ty b, rfl, fun H => by simp⟩
  | .lis b, u, h => by
    cases u <;> simp [relM] at h
  | .tup xs, u, h => by
    cases u <;> simp only [relM] at h <;> try (cases h)
    rename_i a
    cases q : K.lookup a with
    | none => rw [q] at h; cases h
    | some o =>
      obtain ⟨oc, od, dt, osl⟩ := o
      rw [q] at h
      cases oc with
      | type c =>
        cases dt with
        | seq its n =>
          obtain ⟨h1, h⟩ := (Bool.and_eq_true_iff.mp h)
          obtain ⟨h2, h3⟩ := Bool.and_eq_true_iff.mp h
          replace h1 := of_decide_eq_true h1
          replace h2 := of_decide_eq_true h2
          obtain ⟨vs, r, hv⟩ := relMs_ok xs h3
          exact ⟨.ref a, rfl, fun H => VR_tup.mpr ⟨a, vs, rfl, .inr ⟨_, its, n, q, congrArg Value.type h1, rfl, h2, r⟩, hv H⟩⟩
        | _ => cases h
      | _ => cases dt <;> cases h
theorem relMs_ok : ∀ (xs : List MV) {us : List Value}, relMs K xs us = true → ∃ vs, Vals vs us ∧ ∀ H, VRs K H xs vs
  | [], us, h => by
    cases us <;> simp [relMs] at h
    exact ⟨[], .nil, fun H => by simp⟩
  | x :: xs, us, h => by
    cases us with
    | nil => simp [relMs] at h
    | cons u us =>
      simp only [relMs, Bool.and_eq_true] at h
      obtain ⟨v, r, hv⟩ := relM_ok x h.1
      obtain ⟨vs, rs, hvs⟩ := relMs_ok xs h.2
      exact ⟨v :: vs, .cons r rs, fun H => VRs_cons.mpr ⟨v, vs, rfl, hv H, hvs H⟩⟩
end
def gcB (x : Str) (m : MV) (K : PySem.W.Frag) : Bool := match PySem.W.nsIn K mainGlobals x with
  | some (some u) => relM K m u
  | _ => false
theorem gc_ok {h : Heap} {mg : Str → Option Value} {x : Str} {m : MV} (X : K.In h) (G : h.Ns mainGlobals mg) (c : gcB x m K = true) : Gc K mg x m := by
  unfold gcB at c
  split at c
  · rename_i u e
    obtain ⟨v, r, hv⟩ := relM_ok m c
    exact ⟨u, v, PySem.W.mg_of X G e, r, hv⟩
  · cases c
theorem glo_gc {h : Heap} {mg : Str → Option Value} {x : Str} (X : K.In h) (G : h.Ns mainGlobals mg) (c : (He.Fa.glo x).ok K = true) : Gc K mg x (.ref (He.ga K x)) := ⟨_, .ref (He.ga K x), He.glo_ok X G c, rfl, fun H => by simp⟩
/-- a property: its getter -/
def pAt (C : Str) (f : Str) (K : PySem.W.Frag) : Addr := match PySem.W.findIn K (.ref (He.ga K C)) f with
  | some (some (.ref p)) => p
  | _ => 0
def pGet (C : Str) (f : Str) (K : PySem.W.Frag) : Addr := match PySem.W.recIn K (pAt C f K) "property" with
  | some (.ref g :: _) => g
  | _ => 0
def propB (C : Str) (f : Str) (K : PySem.W.Frag) : Bool := He.eqO (PySem.W.findIn K (.ref (He.ga K C)) f) (some (some (.ref (pAt C f K)))) && (He.eqO (PySem.W.specialIn K (.ref (pAt C f K)) "__get__") (some (some (.builtin "property.__get__"))) &&
  (decide (PySem.W.takesIn K (.ref (pAt C f K)) = some true) && (match PySem.W.recIn K (pAt C f K) "property" with
    | some (.ref _ :: _) => true
    | _ => false)))
theorem prop_ok {C f : Str} (c : propB C f K = true) : PropOf K (He.ga K C) f (pAt C f K) (pGet C f K) := by
  obtain ⟨c1, c⟩ := He.ba c
  obtain ⟨c2, c⟩ := He.ba c
  obtain ⟨c3, c4⟩ := He.ba c
  refine ⟨He.eqO_ok c1, He.eqO_ok c2, of_decide_eq_true c3, ?_⟩
  unfold pGet
  split at c4
  · rename_i g rest e
    exact ⟨rest, by rw [e]⟩
  · cases c4
def eqfB (C : Str) (own : PySem.W.Frag → List Addr) (K : PySem.W.Frag) : Bool := He.eqO (PySem.W.findIn K (.ref (He.ga K C)) "__ne__") (some (some (.builtin "object.__ne__"))) && (decide (PySem.W.mroIn K (He.ga K C) (.type "object") = some true) &&
  ((names7.all fun a => PySem.W.notFirst K (He.ga K C) (.type a)) && (own K).all fun D => PySem.W.notFirst K (He.ga K C) (.ref D)))
theorem eqf_ok {C : Str} {own : PySem.W.Frag → List Addr} (c : eqfB C own K = true) : EqF K (He.ga K C) (own K) := by
  obtain ⟨c1, c⟩ := He.ba c
  obtain ⟨c2, c⟩ := He.ba c
  obtain ⟨c3, c4⟩ := He.ba c
  exact ⟨He.eqO_ok c1, of_decide_eq_true c2, List.all_eq_true.mp c3, List.all_eq_true.mp c4⟩
theorem insC_ok {own : List Addr} (h : kitsB K own = true) : ∀ D ∈ own, InsC K D := fun D hd => (isi_ok h).own D (.ref D) true (by
  unfold isiT
  simp [hd])
end
end MM
end
section
namespace MM
open PySem PySem.Spec PyProof.Rows L2
section
variable {g : WG} {tt : WT} {te : WE} {wi : WI} {own : List Nat} {ρ : En} {h : MH} {q : QV} {e : QX} {d : MD} {items : List MV} {stay : MH → Prop} {body : WS} {c : WT}
/-! ### comprehensions -/
def kD (q : QV) (D : Addr) : MH → Prop := fun h => q (.ref D) h
def kLc (g : WG) (tt : WT) (te : WE) (own : List Nat) (ρ : En) (q : QV) : ItM → MH → Prop := fun it h1 => ∀ D, h1.at_ D = none → lcM g tt te D it.stay it.items (wipeM ρ own) (h1.put D (.lst [])) (kD q D)
@[simp ↓] theorem wLc_s : wLc wi g tt te own ρ h q e = wi ρ h (kLc g tt te own ρ q) e := rfl
def kLcB (te : WE) (qy : QV) (qn : MH → Prop) (ρ : En) : Bool → MH → Prop := fun b h => match b with
  | true => te ρ h qy NX
  | false => qn h
@[simp ↓] theorem kLcB_t {qy : QV} {qn : MH → Prop} : kLcB te qy qn ρ true h = te ρ h qy NX := rfl
@[simp ↓] theorem kLcB_f {qy : QV} {qn : MH → Prop} : kLcB te qy qn ρ false h = qn h := rfl
theorem kLcB_s {qy : QV} {qn : MH → Prop} {b : Bool} : kLcB te qy qn ρ b h = if b = true then te ρ h qy NX else qn h := by cases b <;> rfl
def kLcT (tt : WT) (te : WE) (qy : QV) (qn : MH → Prop) : En → MH → Prop := fun ρ h => tt ρ h (kLcB te qy qn ρ) NX
@[simp ↓] theorem kLcT_s {qy : QV} {qn : MH → Prop} : kLcT tt te qy qn ρ h = tt ρ h (kLcB te qy qn ρ) NX := rfl
@[simp ↓] theorem wYes_s {q : Bool → MH → Prop} : wYes ρ h q e = q true h := rfl
theorem lcM_rule {D : Addr} (J : List MV → List MV → MH → Prop) {k : MH → Prop} (hst : ∀ acc r h, J acc r h → stay h)
    (hstep : ∀ acc x r h, J acc (x :: r) h → ∀ (qy : QV) (qn : MH → Prop), (∀ y h', h'.at_ D = some (.lst acc) → acc.length < sizeLine → J (acc ++ [y]) r (h'.put D (.lst (acc ++ [y]))) → qy y h') → (∀ h', J acc r h' → qn h') → g x ρ h (kLcT tt te qy qn) NX)
    (hend : ∀ acc h, J acc [] h → k h) : ∀ (items acc : List MV) (h : MH), J acc items h → lcM g tt te D stay items ρ h k
  | [], acc, h, j => ⟨hst _ _ _ j, hend _ _ j⟩
  | x :: r, acc, h, j => ⟨hst _ _ _ j, hstep acc x r h j (fun y h4 => ∃ acc, h4.at_ D = some (.lst acc) ∧ acc.length < sizeLine ∧ lcM g tt te D stay r ρ (h4.put D (.lst (acc ++ [y]))) k) (fun h3 => lcM g tt te D stay r ρ h3 k)
      (fun y h' e l j' => ⟨acc, e, l, lcM_rule J hst hstep hend r _ _ j'⟩) fun h' j' => lcM_rule J hst hstep hend r _ _ j'⟩
theorem kLc_rule (J : Addr → List MV → List MV → MH → Prop) (h0 : ∀ D, h.at_ D = none → J D [] items (h.put D (.lst []))) (hst : ∀ D acc r h', J D acc r h' → stay h')
    (hstep : ∀ D acc x r h', J D acc (x :: r) h' → ∀ (qy : QV) (qn : MH → Prop), (∀ y h', h'.at_ D = some (.lst acc) → acc.length < sizeLine → J D (acc ++ [y]) r (h'.put D (.lst (acc ++ [y]))) → qy y h') → (∀ h', J D acc r h' → qn h') → g x (wipeM ρ own) h' (kLcT tt te qy qn) NX)
    (hend : ∀ D acc h', J D acc [] h' → q (.ref D) h') : kLc g tt te own ρ q ⟨items, stay⟩ h := fun D nD => lcM_rule (J D) (hst D) (hstep D) (hend D) items [] _ (h0 D nD)
/-- items looked at alone: f x, or nothing; the heap as it was -/
theorem lc_fm (f : MV → Option MV) (hl : items.length < sizeLine) (hs : ∀ D acc, h.at_ D = none → stay (h.put D (.lst acc)))
    (hstep : ∀ D acc x, x ∈ items → h.at_ D = none → ∀ (qy : QV) (qn : MH → Prop), (∀ y, f x = some y → qy y (h.put D (.lst acc))) → (f x = none → qn (h.put D (.lst acc))) → g x (wipeM ρ own) (h.put D (.lst acc)) (kLcT tt te qy qn) NX)
    (z : newL h (.lst (items.filterMap f)) q) : kLc g tt te own ρ q ⟨items, stay⟩ h := by
  refine kLc_rule (fun D acc r h' => h.at_ D = none ∧ (∀ x ∈ r, x ∈ items) ∧ acc.length + r.length ≤ items.length ∧ acc ++ r.filterMap f = items.filterMap f ∧ h' = h.put D (.lst acc)) (fun D n => ⟨n, fun _ m => m, by simp, by simp, rfl⟩) (fun D acc r h' ⟨n, _, _, _, e⟩ => by rw [e]; exact hs D acc n) ?_ ?_
  · rintro D acc x r h' ⟨n, hm, hl2, e1, rfl⟩ qy qn k1 k2
    refine hstep D acc x (hm x (by simp)) n qy qn (fun y ey => ?_) fun en => ?_
    · refine k1 y _ MH.put_same (by simp at hl2; omega) ⟨n, fun z m => hm z (by simp [m]), by simp at hl2 ⊢; omega, ?_, MH.put_put _ _ _ _⟩
      rw [← e1]
      simp [List.filterMap_cons, ey]
    · refine k2 _ ⟨n, fun z m => hm z (by simp [m]), by simp at hl2 ⊢; omega, ?_, rfl⟩
      rw [← e1]
      simp [List.filterMap_cons, en]
  · rintro D acc h' ⟨n, _, _, e1, rfl⟩
    simp at e1
    rw [e1]
    exact z D n
theorem lc_map (f : MV → MV) (hl : items.length < sizeLine) (hs : ∀ D acc, h.at_ D = none → stay (h.put D (.lst acc)))
    (hstep : ∀ D acc x, x ∈ items → h.at_ D = none → ∀ (qy : QV) (qn : MH → Prop), qy (f x) (h.put D (.lst acc)) → g x (wipeM ρ own) (h.put D (.lst acc)) (kLcT tt te qy qn) NX)
    (z : newL h (.lst (items.map f)) q) : kLc g tt te own ρ q ⟨items, stay⟩ h :=
  lc_fm (fun x => some (f x)) hl hs (fun D acc x m n qy qn k1 _ => hstep D acc x m n qy qn (k1 _ rfl)) (by simpa using z)
/-- items drawn, each at cost c, each such that R -/
theorem lc_draw (R : MV → Prop) (c : Nat) (hl : items.length < sizeLine) (hs : ∀ n D acc, h.at_ D = none → stay ((h.sp n).put D (.lst acc)))
    (hstep : ∀ D acc x k, x ∈ items → h.at_ D = none → k + 1 ≤ items.length → ∀ (qy : QV) (qn : MH → Prop), (∀ y, R y → qy y ((h.sp (c * k + c)).put D (.lst acc))) → g x (wipeM ρ own) ((h.sp (c * k)).put D (.lst acc)) (kLcT tt te qy qn) NX)
    (z : ∀ ys : List MV, ys.length = items.length → (∀ y ∈ ys, R y) → newL (h.sp (c * items.length)) (.lst ys) q) : kLc g tt te own ρ q ⟨items, stay⟩ h := by
  refine kLc_rule (fun D acc r h' => h.at_ D = none ∧ (∀ x ∈ r, x ∈ items) ∧ acc.length + r.length = items.length ∧ (∀ y ∈ acc, R y) ∧ h' = (h.sp (c * acc.length)).put D (.lst acc)) (fun D n => ⟨n, fun _ m => m, by simp, by simp, by simp⟩) (fun D acc r h' ⟨n, _, _, _, e⟩ => by rw [e]; exact hs _ D acc n) ?_ ?_
  · rintro D acc x r h' ⟨n, hm, hl2, e1, rfl⟩ qy qn k1 k2
    refine hstep D acc x acc.length (hm x (by simp)) n (by simp at hl2; omega) qy qn fun y ry => ?_
    refine k1 y _ MH.put_same (by simp at hl2; omega) ⟨n, fun z m => hm z (by simp [m]), by simp at hl2 ⊢; omega, ?_, ?_⟩
    · intro z m
      rcases List.mem_append.mp m with m | m
      · exact e1 z m
      · simp at m; subst m; exact ry
    · rw [MH.put_put]
      simp [Nat.mul_add]
  · rintro D acc h' ⟨n, _, hl2, e1, rfl⟩
    simp at hl2
    rw [hl2]
    exact z acc hl2 e1 D n
/-! ### loops -/
def loopD (N : En → MH → Prop) (d : MD) : MD := ⟨N, d.rt, d.nx, N, d.ex⟩
section
variable {N : En → MH → Prop}
@[simp ↓] theorem loopD_nx : (loopD N d).nx ρ h = N ρ h := rfl
@[simp ↓] theorem loopD_ct : (loopD N d).ct ρ h = N ρ h := rfl
@[simp ↓] theorem loopD_bk : (loopD N d).bk ρ h = d.nx ρ h := rfl
@[simp ↓] theorem loopD_rt {v : MV} : (loopD N d).rt v h = d.rt v h := rfl
@[simp ↓] theorem loopD_ex {x : MX} : (loopD N d).ex x ρ h = d.ex x ρ h := rfl
def kFB (body : WS) (d : MD) : En → MH → Prop := fun ρ h => body ρ h d
@[simp ↓] theorem kFB_s : kFB body d ρ h = body ρ h d := rfl
theorem for_rule (J : List MV → En → MH → Prop) (h0 : J items ρ h) (hst : ∀ r ρ h, J r ρ h → stay h)
    (hstep : ∀ x r ρ h, J (x :: r) ρ h → ∀ N : En → MH → Prop, (∀ ρ h, J r ρ h → N ρ h) → g x ρ h (kFB body (loopD N d)) (exAt d ρ)) (hend : ∀ ρ h, J [] ρ h → d.nx ρ h) : kFor g body ρ d ⟨items, stay⟩ h := by
  show loopM g body stay items ρ h d
  have key : ∀ (l : List MV) (ρ : En) (h : MH), J l ρ h → loopM g body stay l ρ h d := by
    intro l
    induction l with
    | nil => exact fun ρ h j => ⟨hst _ _ _ j, hend _ _ j⟩
    | cons x r ih => exact fun ρ h j => ⟨hst _ _ _ j, hstep x r ρ h j (fun ρ2 h2 => loopM g body stay r ρ2 h2 d) fun ρ h j => ih ρ h j⟩
  exact key items ρ h h0
def kWh (body : WS) (N : En → MH → Prop) (d : MD) (ρ : En) : Bool → MH → Prop := fun b h => match b with
  | true => body ρ h (loopD N d)
  | false => d.nx ρ h
@[simp ↓] theorem kWh_t : kWh body N d ρ true h = body ρ h (loopD N d) := rfl
@[simp ↓] theorem kWh_f : kWh body N d ρ false h = d.nx ρ h := rfl
theorem kWh_s {b : Bool} : kWh body N d ρ b h = if b = true then body ρ h (loopD N d) else d.nx ρ h := by cases b <;> rfl
end
theorem while_rule (Pv : Nat → En → MH → Prop) (n : Nat) (h0 : Pv n ρ h) (hstep : ∀ n ρ h, Pv n ρ h → ∀ N : En → MH → Prop, (∀ m ρ h, m < n → Pv m ρ h → N ρ h) → c ρ h (kWh body N d ρ) (exAt d ρ)) : wWhile c body ρ h d :=
  ⟨Pv, n, h0, fun n ρ h p => hstep n ρ h p (fun ρ2 h2 => ∃ m, m < n ∧ Pv m ρ2 h2) fun m ρ2 h2 l p' => ⟨m, l, p'⟩⟩
end
end MM
end
section
namespace MM
open PySem PySem.Spec PyProof.Rows L2
/-! ### lists that nobody changes any more, objects that are whole: by what they hold -/
theorem MH.ext {a b : MH} (x : a.at_ = b.at_) (y : a.deal = b.deal) (z : a.n = b.n) : a = b := by
  obtain ⟨_, _, _, _⟩ := a
  obtain ⟨_, _, _, _⟩ := b
  simp only at x y z
  subst x y z
  rfl
def MH.del (h : MH) (a : Addr) : MH := ⟨fun b => if b = a then none else h.at_ b, h.deal, h.n, by
  obtain ⟨m, e⟩ := h.fin
  refine ⟨m, fun b l => ?_⟩
  show (if b = a then none else h.at_ b) = none
  split
  · rfl
  · exact e b l⟩
@[simp] theorem MH.del_at (h : MH) (a b : Addr) : (h.del a).at_ b = if b = a then none else h.at_ b := rfl
@[simp] theorem MH.del_n (h : MH) (a : Addr) : (h.del a).n = h.n := rfl
@[simp] theorem MH.del_deal (h : MH) (a : Addr) : (h.del a).deal = h.deal := rfl
@[simp] theorem MH.src_del (h : MH) (x : MV) (c : Nat) (a : Addr) : (h.del a).src x c = h.src x c := rfl
theorem MH.del_put {h : MH} {p : Addr} {o : MO} (n : h.at_ p = none) : (h.put p o).del p = h := MH.ext (by
  funext b
  show (if b = p then none else if b = p then some o else h.at_ b) = h.at_ b
  split
  · rename_i e; rw [e, n]
  · rfl) rfl rfl
theorem MH.del_none {h : MH} {p : Addr} (n : h.at_ p = none) : h.del p = h := MH.ext (by
  funext b
  show (if b = p then none else h.at_ b) = h.at_ b
  split
  · rename_i e; rw [e, n]
  · rfl) rfl rfl
theorem MH.del_le (h : MH) (p : Addr) : MH.le (h.del p) h := ⟨fun a o e => by
  rw [MH.del_at] at e
  split at e
  · cases e
  · exact e, .inr rfl, Nat.le_refl _⟩
@[simp] theorem MH.del_sp (h : MH) (c : Nat) (p : Addr) : (h.sp c).del p = (h.del p).sp c := rfl
theorem inv_frz {X : Cx} {pins : List (Addr × Obj)} {σ : L2.St} {H : Hp} {s : Shared} {p : Addr} {vs : List V} (I : Inv X pins σ H s) (e : H p = some (.lst vs)) : ∃ o, Inv X pins σ (upd H p (.frz o (.lst vs))) s := by
  obtain ⟨ln, its, n, r, g⟩ := I.hok p _ e
  have nn : ∀ {b : Addr}, H b = none → b ≠ p := fun {b} q z => by rw [z, e] at q; cases q
  refine ⟨{ cls := .type "list", data := .seq its.toArray n }, I.un (h' := s.heap) (t' := s.toks) ⟨fun b o q _ _ _ => q, fun b o q _ _ _ => ⟨o.slots, q⟩, fun b o _ q _ => by rw [upd_ne (nn q)]; exact q, fun b o q _ => ⟨o, q⟩,
    fun b xs q => by rw [upd_ne (ne_of q e fun z => by cases z)]; exact q, fun b o u q => by rw [upd_ne (ne_of q e fun z => by cases z)]; exact q, fun b ps q => ⟨#[], by rw [upd_ne (ne_of q e fun z => by cases z), q]; simp⟩⟩ fun b u q => ?_⟩
  · by_cases hb : b = p
    · subst hb
      rw [upd_same] at q
      cases q
      exact ⟨g, ln, its, n, r, g⟩
    · rw [upd_ne hb] at q
      exact (I.hok b u q).stay (fun _ _ _ z => z) (fun c z => by rw [upd_ne (ne_of z e fun z => by cases z)]; exact z) fun c xs z => by rw [upd_ne (ne_of z e fun z => by cases z)]; exact z
def frzQ (Q : VK) : VK := fun v H => Q v H ∨ ∃ p vs, H p = some (.lst vs) ∧ ∀ o, Q v (upd H p (.frz o (.lst vs)))
theorem ep_fz {X : Cx} {pins : List (Addr × Obj)} {σ : L2.St} {Q : VK} {u : Value} {s : Shared} (z : EP X pins σ (frzQ Q) u s) : EP X pins σ Q u s := by
  obtain ⟨v, H', I', r, z⟩ := z
  rcases z with z | ⟨p, vs, e, z⟩
  · exact ⟨v, H', I', r, z⟩
  · obtain ⟨o, I2⟩ := inv_frz I' e
    exact ⟨v, _, I2, r, z o⟩
theorem pe_fz {X : Cx} {e : Expr} {t : TE} (h : PE X e t) : PE X e (fun σ H Q => t σ H (frzQ Q)) := ⟨fun pins s σ H Q I q => wpAny_mono (h.run pins s σ H (frzQ Q) I q) (fun _ _ z => ep_fz z) fun _ _ z => z⟩
def kFz2 (p : Addr) (h : MH) (q : QV) : Option MO → Prop := fun o => match o with
  | some (.lst xs) => q (.lis xs) (h.del p)
  | _ => q (.ref p) h
/-- a list, frozen -/
def kFz (q : QV) : QV := fun v h => match v with
  | .ref p => atK h p (kFz2 p h q)
  | v => q v h
def kOb2 (p : Addr) (h : MH) (q : QV) : Option MO → Prop := fun o => match o with
  | some (.ins C fs) => sealedN (fs.map (·.1)) = true ∧ q (.obj C (fs.map (·.1)) (fs.map (·.2))) (h.del p)
  | _ => q (.ref p) h
/-- an object, whole -/
def kOb (q : QV) : QV := fun v h => match v with
  | .ref p => atK h p (kOb2 p h q)
  | v => q v h
theorem HR.del {K : PySem.W.Frag} {h : MH} {H : Hp} (r : HR K h H) (p : Addr) : HR K (h.del p) H := r.le (h.del_le p)
/-- the place p of h is given up: it may be written -/
theorem HR.over {K : PySem.W.Frag} {h : MH} {H : Hp} {p : Addr} {u : MO} {o : HO} (r : HR K h H) (e : h.at_ p = some u) (t : TK H (upd H p o)) : HR K (h.del p) (upd H p o) :=
  (r.del p).other t (by simp) fun d q => r.nodealO e d q
theorem fz_ok {X : Cx} {q : QV} {mv : MV} {v : V} {h' : MH} {H H' : Hp} {Q : VK} (k : ∀ mv v h' H', TK H H' → HR X.K h' H' → VR X.K H' mv v → q mv h' → Q v H') (t : TK H H') (r : HR X.K h' H') (vr : VR X.K H' mv v) (z : kFz q mv h') : frzQ Q v H' := by
  cases mv with
  | ref p =>
    have z : atK h' p (kFz2 p h' q) := z
    unfold atK kFz2 at z
    split at z
    · rename_i xs ep
      simp at vr
      subst vr
      obtain ⟨vs, g, rs⟩ := r.ob p _ ep
      refine .inr ⟨p, vs, g, fun o => ?_⟩
      have t2 : TK H' (upd H' p (.frz o (.lst vs))) := TK.mut g (fun z => z)
      exact k (.lis xs) (.ref p) (h'.del p) _ (t.trans t2) (r.over ep t2) (VR_lis.mpr ⟨p, vs, rfl, .inl ⟨o, upd_same⟩, VRs.tk t2 _ rs⟩) z
    · exact .inl (k _ _ h' H' t r vr z)
  | _ => exact .inl (k _ _ h' H' t r vr z)
theorem ob_ok {X : Cx} {q : QV} {mv : MV} {v : V} {h' : MH} {H H' : Hp} {Q : VK} (k : ∀ mv v h' H', TK H H' → HR X.K h' H' → VR X.K H' mv v → q mv h' → Q v H') (t : TK H H') (r : HR X.K h' H') (vr : VR X.K H' mv v) (z : kOb q mv h') : Q v H' := by
  cases mv with
  | ref p =>
    have z : atK h' p (kOb2 p h' q) := z
    unfold atK kOb2 at z
    split at z
    · rename_i C fs ep
      simp at vr
      subst vr
      obtain ⟨dx, gs, g, r1, r2⟩ := r.ob p _ ep
      exact k _ _ (h'.del p) H' t (r.del p) (VR_obj.mpr ⟨p, dx, gs, rfl, g, r1.symm, z.1, r2⟩) z.2
    · exact k _ _ h' H' t r vr z
  | _ => exact k _ _ h' H' t r vr z
def wFz (w : WE) : WE := fun ρ h q e => w ρ h (kFz q) e
theorem se_fz {X : Cx} {e : Expr} {w : WE} (x : SE X e w) : SE X e (wFz w) := PE.imp (pe_fz x) fun σ H Q ⟨ρ, h, q, e, sr, hr, tk, w, k⟩ => ⟨ρ, h, _, e, sr, hr, tk, w, fun mv v h' H' t r vr z => fz_ok k t r vr z⟩
theorem callM_fz {X : Cx} {f : Value} {Φ : Spec} (c : CallM X f Φ) : CallM X f (fun a h q e => Φ a h (kFz q) e) := fun pins s σ H ρ h args vs us q e Q I sr hr tk va vv φ k =>
  wpAny_mono (c pins s σ H ρ h args vs us _ e (frzQ Q) I sr hr tk va vv φ fun mv v h' H' t r vr z => fz_ok k t r vr z) (fun _ _ z => ep_fz z) fun _ _ z => z
theorem callM_ob {X : Cx} {f : Value} {Φ : Spec} (c : CallM X f Φ) : CallM X f (fun a h q e => Φ a h (kOb q) e) := fun pins s σ H ρ h args vs us q e Q I sr hr tk va vv φ k =>
  c pins s σ H ρ h args vs us _ e Q I sr hr tk va vv φ fun mv v h' H' t r vr z => ob_ok k t r vr z
section
variable {ρ : En} {h : MH} {q : QV} {e : QX}
@[simp ↓] theorem wFz_s {w : WE} : wFz w ρ h q e = w ρ h (kFz q) e := rfl
@[simp ↓] theorem kFz_ref {p : Addr} : kFz q (.ref p) h = atK h p (kFz2 p h q) := rfl
@[simp ↓] theorem kFz2_l {p : Addr} {xs : List MV} : kFz2 p h q (some (.lst xs)) = q (.lis xs) (h.del p) := rfl
@[simp ↓] theorem kFz2_n {p : Addr} : kFz2 p h q none = q (.ref p) h := rfl
@[simp ↓] theorem kFz2_k {p : Addr} {xs : List (Key × MV)} : kFz2 p h q (some (.dK xs)) = q (.ref p) h := rfl
@[simp ↓] theorem kFz2_t {p : Addr} {xs : List (List Key × MV)} : kFz2 p h q (some (.dT xs)) = q (.ref p) h := rfl
@[simp ↓] theorem kFz2_i {p C : Addr} {xs : List (Str × MV)} : kFz2 p h q (some (.ins C xs)) = q (.ref p) h := rfl
@[simp ↓] theorem kFz_non : kFz q .non h = q .non h := rfl
@[simp ↓] theorem kFz_bl {b : Bool} : kFz q (.bl b) h = q (.bl b) h := rfl
@[simp ↓] theorem kFz_int {b : Int} : kFz q (.int b) h = q (.int b) h := rfl
@[simp ↓] theorem kFz_str {b : Str} : kFz q (.str b) h = q (.str b) h := rfl
@[simp ↓] theorem kFz_tup {b : List MV} : kFz q (.tup b) h = q (.tup b) h := rfl
@[simp ↓] theorem kFz_lis {b : List MV} : kFz q (.lis b) h = q (.lis b) h := rfl
@[simp ↓] theorem kFz_obj {C : Addr} {ns : List Str} {b : List MV} : kFz q (.obj C ns b) h = q (.obj C ns b) h := rfl
@[simp ↓] theorem newL_fz {xs : List MV} : newL h (.lst xs) (kFz q) = q (.lis xs) h := by
  refine propext ⟨fun z => ?_, fun z p n => ?_⟩
  · obtain ⟨p, n⟩ := h.fresh
    have y := z p n
    simp [atK_put, MH.del_put n] at y
    exact y
  · simp [atK_put, MH.del_put n]
    exact z
@[simp ↓] theorem kOb_ref {p : Addr} : kOb q (.ref p) h = atK h p (kOb2 p h q) := rfl
@[simp ↓] theorem kOb2_i {p C : Addr} {xs : List (Str × MV)} : kOb2 p h q (some (.ins C xs)) = (sealedN (xs.map (·.1)) = true ∧ q (.obj C (xs.map (·.1)) (xs.map (·.2))) (h.del p)) := rfl
end
/-- f with frozen lists, whole objects -/
theorem Fn.fz {P : Program} {w : World} {K : PySem.W.Frag} {mg : Str → Option Value} {base : Heap} {k : Nat} {x : Str} {Φ : Spec} (F : Fn P w K mg base k x Φ) : Fn P w K mg base k x (fun a h q e => Φ a h (kFz q) e) := let ⟨f, a, b, c⟩ := F; ⟨f, a, b, fun X o => callM_fz (c X o)⟩
theorem Cl.ob {P : Program} {w : World} {K : PySem.W.Frag} {mg : Str → Option Value} {base : Heap} {k : Nat} {x : Str} {C : Addr} {Φ : Spec} (F : Cl P w K mg base k x C Φ) : Cl P w K mg base k x C (fun a h q e => Φ a h (kOb q) e) := ⟨F.1, F.2.1, fun X o => callM_ob (F.2.2 X o)⟩
end MM
end
section
namespace MM
open PySem PySem.Spec PyProof.Rows L2
/-! ### own operators -/
section
variable {prog : Program} {w : World} {A : Around} {E : Value → Shared → Prop} {s : Shared} {K : PySem.W.Frag} {x C L f g : Addr} {h₀ : Heap} {m : Str → Option Value} {ox : Obj} {od : Option Obj} {nm : String} {b : Value}
theorem bin1_same {Q : Value → Shared → Prop} (F : Fr h₀ L s.heap m) (X₀ : K.In h₀) (I : PySem.W.InstAt s.heap x ox C od) (hb : PySem.W.Looks (model prog w) s.heap (typeOf b) (.ref C)) (hc : PySem.W.selfFirst K C = true)
    (hs : PySem.W.findIn K (.ref C) (PySem.dunder nm) = some (some (.ref f))) (hf : PySem.W.isFn K (.ref f) = true)
    (h : wpAny (model prog w) A (call (.ref f) [.ref x, b]) (PySem.W.CmpBack Q) E s) : wpAny (model prog w) A (binaryOp1 nm (.ref x) b) (fun r s' => ∃ v, r = some v ∧ Q v s') E s := by
  have X := X₀.keeps F.keep
  obtain ⟨cd, rest, hcd, hm⟩ := PySem.W.ksp_first hc
  unfold binaryOp1
  refine wpAny_bind (I.type.here (wpAny_bind (hb.here (wpAny_bind ((PySem.W.fills_K X hcd hm hs).here ?_)))))
  simp only [beq_self_eq_true, if_true]; apply wpAny_bind; apply wpAny_pure
  simp only [Bool.and_false, Bool.false_and, if_neg Bool.false_ne_true]; apply wpAny_bind; apply wpAny_pure
  rw [if_neg (Bool.false_ne_true)]
  refine wpAny_bind (m := tryMethod (.ref x) _ b) (wpAny_mono (PySem.W.ksp_try X I hs hf h) (fun r s' hr => ?_) fun _ _ e => e)
  obtain ⟨v, rfl, hq⟩ := hr
  exact wpAny_pure ⟨v, rfl, hq⟩
theorem bin1_T {T : String} {fo ro rc : Option Value} {Q : Value → Shared → Prop} (F : Fr h₀ L s.heap m) (X₀ : K.In h₀) (I : PySem.W.InstAt s.heap x ox C od) (hb : typeOf b = pure (.type T)) (hc : PySem.W.selfFirst K C = true)
    (hs : PySem.W.findIn K (.ref C) (PySem.dunder nm) = some (some (.ref f))) (hf : PySem.W.isFn K (.ref f) = true) (hr : PySem.W.findIn K (.ref C) (dunderR nm) = some rc) (hp : rc = none ∨ ∃ g : Addr, rc = some (.ref g))
    (h1 : PySem.W.findIn K (.type T) (PySem.dunder nm) = some fo) (h2 : PySem.W.findIn K (.type T) (dunderR nm) = some ro) (hsub : PySem.W.subIn K (.type T) (.ref C) = some false)
    (h : wpAny (model prog w) A (call (.ref f) [.ref x, b]) (PySem.W.CmpBack Q) E s) : wpAny (model prog w) A (binaryOp1 nm (.ref x) b) (fun r s' => ∃ v, r = some v ∧ Q v s') E s := by
  have X := X₀.keeps F.keep
  obtain ⟨cd, rest, hcd, hm⟩ := PySem.W.ksp_first hc
  have one := PySem.W.ksp_try X I hs hf h
  obtain ⟨hh, gg, d, tt, os⟩ := s
  have L1 : PySem.W.Looks (model prog w) hh (typeOf (.ref x)) (.ref C) := I.type
  have L2 : PySem.W.Looks (model prog w) hh (typeOf b) (.type T) := PySem.W.Looks.of_pure hb
  have L3 : PySem.W.Looks (model prog w) hh (fillsNumberSlot (.ref C) nm) true := PySem.W.fills_K X hcd hm hs
  have L4 : PySem.W.Looks (model prog w) hh (fillsNumberSlot (.type T) nm) ((fo.isSome && !isSeqSlot fo) || (ro.isSome && !isSeqSlot ro)) := PySem.W.ksp_fillsT X h1 h2
  have L5 : PySem.W.Looks (model prog w) hh (isSubtype (.type T) (.ref C)) false := PySem.W.looks_subIn X hsub
  have L6 : PySem.W.Looks (model prog w) hh (numberSlotInPython (.ref C) nm) true := PySem.W.ksp_inPy X hs hr hp
  have L7 : PySem.W.Looks (model prog w) hh (numberSlotInPython (.type T) nm) false := PySem.W.Looks.of_pure rfl
  have L8 : PySem.W.Looks (model prog w) hh (typeLookup (.type T) (dunderR nm)) ro := PySem.W.looks_findIn X h2
  have other : (Value.ref C == Value.type T) = false := beq_eq_false_iff_ne.mpr fun z => nomatch z
  unfold binaryOp1
  refine wpAny_bind (L1.at (wpAny_bind (L2.at (wpAny_bind (L3.at (?_ : _))))))
  rw [other]
  -- whether the right side has a slot of its own does not matter here
  generalize (fo.isSome && !isSeqSlot fo || ro.isSome && !isSeqSlot ro) = side at L4
  simp only [if_neg Bool.false_ne_true]
  cases side <;>
  · ksp_lk
    refine wpAny_mono one ?_ fun _ _ => id
    rintro _ s' ⟨v, rfl, q⟩
    ksp_lk
    exact ⟨v, rfl, q⟩
theorem bin_of {op : Operator} {a : Value} {Q : Value → Shared → Prop} (h : wpAny (model prog w) A (binaryOp1 op.info.2 a b) (fun r s' => ∃ v, r = some v ∧ Q v s') E s) : wpAny (model prog w) A (binaryOp op a b) Q E s := by
  obtain ⟨sym, nm', hi⟩ : ∃ a b, op.info = (a, b) := ⟨_, _, rfl⟩
  rw [hi] at h; simp only [binaryOp, hi]
  refine wpAny_holding (wpAny_bind (wpAny_mono h (fun r s' hr => ?_) fun _ _ e => e))
  obtain ⟨v, rfl, hq⟩ := hr
  exact wpAny_pure hq
/-- x op= b where the class has no in-place method -/
theorem fills_no {h : Heap} {cd : ClassData} {add : Bool} (X : K.In h) (hc : PySem.W.clsIn K C = some cd) (hm : cd.mro = [.ref C, .type "object"]) (h1 : PySem.W.findIn K (.ref C) (dunderI nm) = some none) (h2 : PySem.W.findIn K (.type "object") (dunderI nm) = some none) :
    PySem.W.Looks (model prog w) h (fillsInplaceSlot (.ref C) nm add) false := by
  intro A Q E s k q
  have Lm : PySem.W.Looks (model prog w) h (mroOf (.ref C)) cd.mro := (PySem.W.looks_clsIn X hc).andThen (f := fun cd => pure cd.mro) .now
  have Lm' := Lm.keeps k
  cases s; rename_i hh g d tt os
  have X' := X.keeps k
  have L1 : PySem.W.Looks (model prog w) hh (typeLookup (.ref C) (dunderI nm)) none := PySem.W.looks_findIn X' h1
  have L2 : PySem.W.Looks (model prog w) hh (typeLookup (.type "object") (dunderI nm)) none := PySem.W.looks_findIn X' h2
  unfold fillsInplaceSlot
  refine wpAny_bind (Lm'.at ?_)
  rw [hm, List.anyM_cons]
  refine wpAny_bind ?_
  repeat lk
  exact q
theorem inplace_of {op : Operator} {Q : Value → Shared → Prop} {cd : ClassData} (F : Fr h₀ L s.heap m) (X₀ : K.In h₀) (I : PySem.W.InstAt s.heap x ox C od) (hc : PySem.W.clsIn K C = some cd) (hm : cd.mro = [.ref C, .type "object"])
    (h1 : PySem.W.findIn K (.ref C) (dunderI op.info.2) = some none) (h2 : PySem.W.findIn K (.type "object") (dunderI op.info.2) = some none)
    (h : wpAny (model prog w) A (binaryOp1 op.info.2 (.ref x) b) (fun r s' => ∃ v, r = some v ∧ Q v s') E s) : wpAny (model prog w) A (inplaceOp op (.ref x) b) Q E s := by
  have X := X₀.keeps F.keep
  unfold inplaceOp
  refine wpAny_holding ?_
  refine wpAny_bind (I.type.here (wpAny_bind ((fills_no X hc hm h1 h2).here ?_)))
  rw [if_neg (Bool.false_ne_true)]
  refine wpAny_bind (m := binaryOp1 op.info.2 (.ref x) b) (wpAny_mono h (fun r s' hr => ?_) fun _ _ e => e)
  obtain ⟨v, rfl, hq⟩ := hr
  exact wpAny_pure hq
/-! int * own -/
theorem int_mul_inst (a : Int) (t : Tok) (l C dx : Addr) :
    Meets (Builtin.«int.__mul__» ⟨[.int a t, .ref l], []⟩) (fun _ R s => s.heap.get? l = some (PySem.W.instObj C dx) ∧ R (.ok (.ret Value.notImplemented)) s) :=
  .of_wp fun prog w A R ⟨hp, g, d, tk, os⟩ ⟨(hl : hp.get? l = some (PySem.W.instObj C dx)), z⟩ => by
    simp only [PySem.W.instObj] at hl
    wp_walk using (wpAny_loadPart' hl)
    exact ⟨_, rfl, z⟩
end
end MM
end
section
namespace MM
open PySem PySem.Spec PyProof.Rows L2
/-- what the head tells of a class with own operators -/
structure OpC (K : PySem.W.Frag) (C : Addr) : Prop where
  sf : PySem.W.selfFirst K C = true
  mro : ∃ cd, PySem.W.clsIn K C = some cd ∧ cd.mro = [.ref C, .type "object"]
  no : ∀ nm ∈ (["add", "mul"] : List String), PySem.W.findIn K (.ref C) (dunderI nm) = some none
  rr : ∀ nm ∈ (["add", "mul"] : List String), ∃ rc, PySem.W.findIn K (.ref C) (dunderR nm) = some rc ∧ (rc = none ∨ ∃ g : Addr, rc = some (.ref g))
  su : PySem.W.subIn K (.type "int") (.ref C) = some false
  us : PySem.W.subIn K (.ref C) (.type "int") = some false
theorem cmpback {X : Cx} {pins : List (Addr × Obj)} {σ : L2.St} {Q : VK} {u : Value} {s : Shared} (z : EP X pins σ Q u s) : PySem.W.CmpBack (EP X pins σ Q) u s := by
  cases u <;> first | exact z | (obtain ⟨v, _, _, r, _⟩ := z; cases v <;> first | exact r.elim | (obtain ⟨_, r⟩ := r; cases r) | cases r)
theorem slot_dmul : Slot "int" (PySem.dunder "mul") "int.__mul__" := F.slot_int_mul
theorem dec_mul {prog : Program} {w : World} {A : Around} {E : Value → Shared → Prop} {s : Shared} (i : Int) (t : Tok) (p C dx : Addr) (hg1 : s.heap.get? p = some (PySem.W.instObj C dx)) (Q' : Option Value → Shared → Prop) (z : Q' none s) : wpAny (model prog w) A (tryMethod (.int i t) (PySem.dunder "mul") (.ref p)) Q' E s := by
  refine wpAny_tryMethod_declines (T := "int") (name := PySem.dunder "mul") (id := "int.__mul__") (typeIs_int s i t) slot_dmul ?_
  refine call_meets F.slot_int_mul (typeIs_int s i t) F.entry_int_mul (F.args_int_mul_2 _ _) (int_mul_inst i t p C dx) ?_
  exact ⟨hg1, rfl, z⟩
/-- own op own -/
def bOpO (C : Addr) (Φ : Spec) : B2 := fun x y h q _ => ∃ fs gs, insM h x = some (C, fs) ∧ insM h y = some (C, gs) ∧ Φ [x, y] h q NoX
/-- own op int -/
def bOpI (C : Addr) (Φ : Spec) : B2 := fun x y h q _ => ∃ fs i, insM h x = some (C, fs) ∧ y = .int i ∧ Φ [x, y] h q NoX
/-- int op own -/
def bRopI (C : Addr) (Φ : Spec) : B2 := fun x y h q _ => ∃ fs i, insM h y = some (C, fs) ∧ x = .int i ∧ Φ [y, x] h q NoX
section
variable {X : Cx} {P : Program} {w : World} {K : PySem.W.Frag} {mg : Str → Option Value} {base : Heap} {k j : Nat} {C f : Addr} {Φ : Spec} {nm : String} {pins : List (Addr × Obj)} {s : Shared} {σ : L2.St} {H : Hp} {x y : V} {v u : Value} {Q : VK}
theorem own_add (O : OpC X.K C) (hn : nm ∈ (["add", "mul"] : List String)) (hs : PySem.W.findIn X.K (.ref C) (PySem.dunder nm) = some (some (.ref f))) (hf : PySem.W.isFn X.K (.ref f) = true) (c : CallQ X X.A (.ref f) Φ)
    (I : Inv X pins σ H s) (rx : RelV x v) (ry : RelV y u) (hq : rOwn X (bOpO C Φ) x y H Q) : (∃ p ox od, v = .ref p ∧ PySem.W.InstAt s.heap p ox C od) ∧ wpAny (model X.prog X.w) X.A (binaryOp1 nm v u) (fun r s' => ∃ w, r = some w ∧ EP X pins σ Q w s') X.xe s := by
  obtain ⟨mx, my, h, q, hh, vx, vy, ⟨fs, gs, e1, e2, φ⟩, kk⟩ := hq
  obtain ⟨p, dx, gs1, e0, g1, _⟩ := ins_ok hh vx e1
  obtain ⟨p2, dx2, gs2, e02, g2, _⟩ := ins_ok hh vy e2
  subst e0 e02
  obtain ⟨mA, J, _⟩ := ins_get I.hok g1
  obtain ⟨od, J, _⟩ := J.look
  obtain ⟨mA2, J2, _⟩ := ins_get I.hok g2
  obtain ⟨od2, J2, _⟩ := J2.look
  obtain ⟨m, hF⟩ := I.fr
  cases (show v = .ref p from rx)
  obtain rfl : u = Value.ref p2 := ry
  refine ⟨⟨p, _, _, rfl, J⟩, bin1_same hF I.ok.mod.kin J J2.type O.sf hs hf ?_⟩
  exact wpAny_mono (c pins s σ H h [mx, my] [.ref p, .ref p2] [.ref p, .ref p2] q Q I hh (VRs_cons.mpr ⟨_, _, rfl, vx, VRs_cons.mpr ⟨_, _, rfl, vy, by simp⟩⟩) (.cons rfl (.cons rfl .nil)) φ kk) (fun _ _ z => cmpback z) fun _ _ z => z
theorem own_int {fo ro : Option Value} (O : OpC X.K C) (hn : nm ∈ (["add", "mul"] : List String)) (hs : PySem.W.findIn X.K (.ref C) (PySem.dunder nm) = some (some (.ref f))) (hf : PySem.W.isFn X.K (.ref f) = true) (h1 : PySem.W.findIn X.K (.type "int") (PySem.dunder nm) = some fo) (h2 : PySem.W.findIn X.K (.type "int") (dunderR nm) = some ro) (c : CallQ X X.A (.ref f) Φ)
    (I : Inv X pins σ H s) (rx : RelV x v) (ry : RelV y u) (hq : rOwn X (bOpI C Φ) x y H Q) : (∃ p ox od, v = .ref p ∧ PySem.W.InstAt s.heap p ox C od) ∧ wpAny (model X.prog X.w) X.A (binaryOp1 nm v u) (fun r s' => ∃ w, r = some w ∧ EP X pins σ Q w s') X.xe s := by
  obtain ⟨mx, my, h, q, hh, vx, vy, ⟨fs, i, e1, e2, φ⟩, kk⟩ := hq
  subst e2
  obtain ⟨p, dx, gs1, e0, g1, _⟩ := ins_ok hh vx e1
  subst e0
  have vy' := vy
  simp at vy
  subst vy
  obtain ⟨t, rfl⟩ := ry
  obtain ⟨mA, J, _⟩ := ins_get I.hok g1
  obtain ⟨od, J, _⟩ := J.look
  obtain ⟨m, hF⟩ := I.fr
  cases (show v = .ref p from rx)
  obtain ⟨rc, r1, r2⟩ := O.rr nm hn
  refine ⟨⟨p, _, _, rfl, J⟩, bin1_T (T := "int") hF I.ok.mod.kin J rfl O.sf hs hf r1 r2 h1 h2 O.su ?_⟩
  exact wpAny_mono (c pins s σ H h [mx, .int i] [.ref p, .int i] [.ref p, .int i t] q Q I hh (VRs_cons.mpr ⟨_, _, rfl, vx, VRs_cons.mpr ⟨_, _, rfl, vy', by simp⟩⟩) (.cons rfl (.cons ⟨t, rfl⟩ .nil)) φ kk) (fun _ _ z => cmpback z) fun _ _ z => z
theorem int_own {g : Addr} (O : OpC X.K C) (hs : PySem.W.findIn X.K (.ref C) (PySem.dunder "mul") = some (some (.ref f))) (hr : PySem.W.findIn X.K (.ref C) (dunderR "mul") = some (some (.ref g))) (hg : PySem.W.isFn X.K (.ref g) = true) (c : CallQ X X.A (.ref g) Φ)
    (I : Inv X pins σ H s) (rx : RelV x v) (ry : RelV y u) (hq : rOwn X (bRopI C Φ) x y H Q) : wpAny (model X.prog X.w) X.A (binaryOp .Mult v u) (EP X pins σ Q) X.xe s := by
  obtain ⟨mx, my, h, q, hh, vx, vy, ⟨fs, i, e1, e2, φ⟩, kk⟩ := hq
  subst e2
  obtain ⟨p, dx, gs1, e0, g1, _⟩ := ins_ok hh vy e1
  subst e0
  have vx' := vx
  simp at vx
  subst vx
  obtain ⟨t, rfl⟩ := rx
  obtain ⟨mA, J, _⟩ := ins_get I.hok g1
  obtain ⟨od, J, _⟩ := J.look
  obtain ⟨m, hF⟩ := I.fr
  obtain rfl : u = Value.ref p := ry
  have XX := I.ok.mod.kin.keeps hF.keep
  obtain ⟨cd, rest, hcd, hm⟩ := PySem.W.ksp_first O.sf
  have hg1 := (I.hok p _ g1).2.2.2.1
  have hne : (Value.type "int" == Value.ref C) = false := Bool.eq_false_iff.mpr fun q => by cases beq_iff_eq.mp q
  refine bin_of (op := .Mult) ?_
  show wpAny (model X.prog X.w) X.A (binaryOp1 "mul" (.int i t) (.ref p)) _ _ _
  unfold binaryOp1
  refine wpAny_bind (wpAny_pure (wpAny_bind (J.type.here (wpAny_bind (wpAny_of_eq F.fills_int_mul ?_)))))
  rw [hne]; simp only [if_neg Bool.false_ne_true]
  refine wpAny_bind ((PySem.W.fills_K XX hcd hm hs).here ?_)
  simp only [Bool.and_self, if_true]; refine wpAny_bind ((PySem.W.looks_subIn XX O.us).here ?_)
  simp only [Bool.false_eq_true, if_false]; apply wpAny_bind; apply wpAny_pure
  simp only [Bool.false_eq_true, if_false, Bool.not_false, Bool.and_self, if_true]
  refine wpAny_bind (dec_mul i t p C dx hg1 _ ?_)
  refine wpAny_bind (m := tryMethod (.ref p) _ (.int i t)) (wpAny_mono (PySem.W.ksp_try (name := dunderR "mul") XX J hr hg (Q := EP X pins σ Q) ?_) (fun r s' hr' => ?_) fun _ _ e => e)
  · exact wpAny_mono (c pins s σ H h [my, .int i] [.ref p, .int i] [.ref p, .int i t] q Q I hh (VRs_cons.mpr ⟨_, _, rfl, vy, VRs_cons.mpr ⟨_, _, rfl, vx', by simp⟩⟩) (.cons rfl (.cons ⟨t, rfl⟩ .nil)) φ kk) (fun _ _ z => cmpback z) fun _ _ z => z
  · obtain ⟨v, rfl, hq⟩ := hr'
    exact wpAny_bind <| wpAny_rule <| wpAny_pure (Q := fun (r : Option Value) s' => ∃ v, r = some v ∧ EP X pins σ Q v s') ⟨v, rfl, hq⟩
end
/-! ### as rules: C's own methods, told by Me -/
/-- the class's + (nm: add), * by an int, int *, and in place -/
structure OpO (P : Program) (w : World) (K : PySem.W.Frag) (mg : Str → Option Value) (base : Heap) (k : Nat) (C : Addr) (nm : String) (Φ : Spec) : Prop where
  op : OpC K C
  ex : ∃ f, PySem.W.findIn K (.ref C) (PySem.dunder nm) = some (some (.ref f)) ∧ PySem.W.isFn K (.ref f) = true ∧ ∀ X : Cx, On P w K mg base k X → CallM X (.ref f) Φ
/-- int * own -/
structure RmO (P : Program) (w : World) (K : PySem.W.Frag) (mg : Str → Option Value) (base : Heap) (k : Nat) (C : Addr) (Φ : Spec) : Prop where
  op : OpC K C
  mul : ∃ f : Addr, PySem.W.findIn K (.ref C) (PySem.dunder "mul") = some (some (.ref f))
  ex : ∃ f, PySem.W.findIn K (.ref C) (dunderR "mul") = some (some (.ref f)) ∧ PySem.W.isFn K (.ref f) = true ∧ ∀ X : Cx, On P w K mg base k X → CallM X (.ref f) Φ
theorem int_mul_find : ∃ fo ro, (∀ K : PySem.W.Frag, PySem.W.findIn K (.type "int") (PySem.dunder "mul") = some fo) ∧ ∀ K : PySem.W.Frag, PySem.W.findIn K (.type "int") (dunderR "mul") = some ro :=
  ⟨some (.builtin "int.__mul__"), some (.builtin "int.__rmul__"), fun _ => by kernel_rfl, fun _ => by kernel_rfl⟩
theorem obj_no (K : PySem.W.Frag) : ∀ nm ∈ (["add", "mul"] : List String), PySem.W.findIn K (.type "object") (dunderI nm) = some none := fun nm h => by
  simp at h
  rcases h with rfl | rfl <;> kernel_rfl
section
variable {X : Cx} {P : Program} {w : World} {K : PySem.W.Frag} {mg : Str → Option Value} {base : Heap} {k j : Nat} {C f : Addr} {Φ : Spec} {a b : Expr} {wa wb : WE} {pos : Pos}
theorem op_addO (O : OpO P w K mg base j C "add" Φ) (o : On P w K mg base k X) (hj : j ≤ k) : OpR X (binaryOp .Add) (rOwn X (bOpO C Φ)) := by
  obtain ⟨oc, f, h1, h2, F⟩ := O
  have c := (F X (o.mono hj)).q
  obtain ⟨rfl, rfl, rfl, rfl, rfl, rm, gu⟩ := o
  exact fun pins s σ H x y v u Q I rx ry hq => bin_of (op := .Add) (own_add oc (by simp) h1 h2 c I rx ry hq).2
theorem op_mulO (O : OpO P w K mg base j C "mul" Φ) (o : On P w K mg base k X) (hj : j ≤ k) : OpR X (binaryOp .Mult) (rOwn X (bOpI C Φ)) := by
  obtain ⟨oc, f, h1, h2, F⟩ := O
  have c := (F X (o.mono hj)).q
  obtain ⟨rfl, rfl, rfl, rfl, rfl, rm, gu⟩ := o
  obtain ⟨fo, ro, e1, e2⟩ := int_mul_find
  exact fun pins s σ H x y v u Q I rx ry hq => bin_of (op := .Mult) (own_int oc (by simp) h1 h2 (e1 _) (e2 _) c I rx ry hq).2
theorem op_rmulO (O : RmO P w K mg base j C Φ) (o : On P w K mg base k X) (hj : j ≤ k) : OpR X (binaryOp .Mult) (rOwn X (bRopI C Φ)) := by
  obtain ⟨oc, ⟨f, h1⟩, g, h2, h3, F⟩ := O
  have c := (F X (o.mono hj)).q
  obtain ⟨rfl, rfl, rfl, rfl, rfl, rm, gu⟩ := o
  exact fun pins s σ H x y v u Q I rx ry hq => int_own oc h1 h2 h3 c I rx ry hq
theorem ip_addO (O : OpO P w K mg base j C "add" Φ) (o : On P w K mg base k X) (hj : j ≤ k) : PIp X .Add (rOwn X (bOpO C Φ)) := by
  obtain ⟨oc, f, h1, h2, F⟩ := O
  have c := (F X (o.mono hj)).q
  obtain ⟨rfl, rfl, rfl, rfl, rfl, rm, gu⟩ := o
  rintro pins s σ H x y v u Q I rx ry hq
  obtain ⟨⟨p, ox, od, e, J⟩, z⟩ := own_add oc (by simp) h1 h2 c I rx ry hq
  subst e
  obtain ⟨m, hF⟩ := I.fr
  obtain ⟨cd, m1, m2⟩ := oc.mro
  exact inplace_of (op := .Add) hF I.ok.mod.kin J m1 m2 (oc.no "add" (by simp)) (obj_no _ "add" (by simp)) z
theorem ip_mulO (O : OpO P w K mg base j C "mul" Φ) (o : On P w K mg base k X) (hj : j ≤ k) : PIp X .Mult (rOwn X (bOpI C Φ)) := by
  obtain ⟨oc, f, h1, h2, F⟩ := O
  have c := (F X (o.mono hj)).q
  obtain ⟨rfl, rfl, rfl, rfl, rfl, rm, gu⟩ := o
  obtain ⟨fo, ro, e1, e2⟩ := int_mul_find
  rintro pins s σ H x y v u Q I rx ry hq
  obtain ⟨⟨p, ox, od, e, J⟩, z⟩ := own_int oc (by simp) h1 h2 (e1 _) (e2 _) c I rx ry hq
  subst e
  obtain ⟨m, hF⟩ := I.fr
  obtain ⟨cd, m1, m2⟩ := oc.mro
  exact inplace_of (op := .Mult) hF I.ok.mod.kin J m1 m2 (oc.no "mul" (by simp)) (obj_no _ "mul" (by simp)) z
theorem se_addO (O : OpO P w K mg base j C "add" Φ) (o : On P w K mg base k X) (ha : SE X a wa) (hb : SE X b wb) (hj : j ≤ k := by decide) : SE X (.BinOp a .Add b pos) (wBin (bOpO C Φ) wa wb) := se_op (b2_own fun _ _ _ _ _ z => z) (op_addO O o hj) ha hb
theorem se_mulO (O : OpO P w K mg base j C "mul" Φ) (o : On P w K mg base k X) (ha : SE X a wa) (hb : SE X b wb) (hj : j ≤ k := by decide) : SE X (.BinOp a .Mult b pos) (wBin (bOpI C Φ) wa wb) := se_op (b2_own fun _ _ _ _ _ z => z) (op_mulO O o hj) ha hb
theorem se_rmulO (O : RmO P w K mg base j C Φ) (o : On P w K mg base k X) (ha : SE X a wa) (hb : SE X b wb) (hj : j ≤ k := by decide) : SE X (.BinOp a .Mult b pos) (wBin (bRopI C Φ) wa wb) := se_op (b2_own fun _ _ _ _ _ z => z) (op_rmulO O o hj) ha hb
end
/-! ### name op= e -/
def kAug2 (i : Nat) (ρ : En) (d : MD) : QV := fun z h => d.nx (ρ.set i (some z)) h
@[simp ↓] theorem kAug2_s {i : Nat} {ρ : En} {d : MD} {z : MV} {h : MH} : kAug2 i ρ d z h = d.nx (ρ.set i (some z)) h := rfl
def kAug1 (i : Nat) (B : B2) (x : MV) (ρ : En) (d : MD) : QV := fun y h => B x y h (kAug2 i ρ d) (exAt d ρ)
@[simp ↓] theorem kAug1_s {i : Nat} {B : B2} {x y : MV} {ρ : En} {d : MD} {h : MH} : kAug1 i B x ρ d y h = B x y h (kAug2 i ρ d) (exAt d ρ) := rfl
def wAug (i : Nat) (B : B2) (a : WE) : WS := fun ρ h d => match ρ[i]? with
  | some (some x) => a ρ h (kAug1 i B x ρ d) (exAt d ρ)
  | _ => False
@[simp ↓] theorem wAug_s {i : Nat} {B : B2} {a : WE} {ρ : En} {d : MD} {h : MH} : wAug i B a ρ h d = (match ρ[i]? with
  | some (some x) => a ρ h (kAug1 i B x ρ d) (exAt d ρ)
  | _ => False) := rfl
theorem ss_aug {X : Cx} {i : Nat} {x : Str} {e : Expr} {op : Operator} {B : B2} {r : R2} {a : WE} {pos' pos : Pos} (hN : X.N.Nodup) (he : SE X e a) (hB : B2Ok X r B) (ho : PIp X op r) (hi : X.N[i]? = some x := by rfl) (hx : Loc X.env.scope x := by first | exact .inl rfl | exact .inr rfl) (hf : X.fn x = true ∨ X.env.scope.names.lookup x = some .local := by first | exact .inl rfl | exact .inr rfl | assumption) :
    SS X (.AugAssign (.Name x pos') op e pos) (wAug i B a) := PS.imp (ps_aug hN hi hx he ho hf) fun D σ H ⟨ρ, h, d, sr, hr, tk, w, n, r', b, c⟩ => by
  unfold wAug at w
  split at w
  · rename_i m em
    obtain ⟨v, e1, vr⟩ := sr.get i m em
    refine ⟨v, e1, ρ, h, _, _, sr, hr, tks_at tk ρ, w, fun y u h1 H1 t1 r1 v1 w1 => ?_⟩
    exact hB m y v u h1 H1 _ _ _ r1 (VR.tk t1 _ vr) v1 w1 fun z v' h2 H2 t2 r2 v2 w2 => n _ _ h2 H2 (t1.trans t2) ((sr.tk (t1.trans t2)).set v2) r2 w2
  · exact w.elim
theorem ss_augO {X : Cx} {i : Nat} {x : Str} {e : Expr} {op : Operator} {B : B2} {a : WE} {pos' pos : Pos} (hN : X.N.Nodup) (hB : ∀ x y h q e, B x y h q e → B x y h q NoX) (he : SE X e a) (ho : PIp X op (rOwn X B)) (hi : X.N[i]? = some x := by rfl) (hx : Loc X.env.scope x := by first | exact .inl rfl | exact .inr rfl) (hf : X.fn x = true ∨ X.env.scope.names.lookup x = some .local := by first | exact .inl rfl | exact .inr rfl | assumption) :
    SS X (.AugAssign (.Name x pos') op e pos) (wAug i B a) := ss_aug hN he (b2_own hB) ho hi hx hf
/-! ### the words -/
section
variable {C : Addr} {Φ : Spec} {h : MH} {q : QV} {e : QX} {x y : MV}
def kOpO2 (C : Addr) (Φ : Spec) (x y : MV) (h : MH) (q : QV) : Addr → List (Str × MV) → Prop := fun D _ => D = C ∧ Φ [x, y] h q NoX
@[simp ↓] theorem kOpO2_s {D : Addr} {fs : List (Str × MV)} : kOpO2 C Φ x y h q D fs = (D = C ∧ Φ [x, y] h q NoX) := rfl
def kOpO1 (C : Addr) (Φ : Spec) (x y : MV) (h : MH) (q : QV) : Addr → List (Str × MV) → Prop := fun D _ => D = C ∧ insK h y (kOpO2 C Φ x y h q)
@[simp ↓] theorem kOpO1_s {D : Addr} {fs : List (Str × MV)} : kOpO1 C Φ x y h q D fs = (D = C ∧ insK h y (kOpO2 C Φ x y h q)) := rfl
@[simp ↓] theorem bOpO_s : bOpO C Φ x y h q e = insK h x (kOpO1 C Φ x y h q) := by
  have e1 : bOpO C Φ x y h q e = (∃ fs, insM h x = some (C, fs) ∧ insK h y (kOpO2 C Φ x y h q)) := by
    unfold bOpO
    refine congrArg _ (funext fun fs => ?_)
    have : insK h y (kOpO2 C Φ x y h q) = (∃ gs, insM h y = some (C, gs) ∧ Φ [x, y] h q NoX) := insK_eq.symm
    rw [this]
    exact propext ⟨fun ⟨gs, a, b, c⟩ => ⟨a, gs, b, c⟩, fun ⟨a, gs, b, c⟩ => ⟨gs, a, b, c⟩⟩
  rw [e1]
  exact insK_eq
@[simp ↓] theorem bOpI_s {i : Int} : bOpI C Φ x (.int i) h q e = insK h x (kOpO2 C Φ x (.int i) h q) := by
  have e1 : bOpI C Φ x (.int i) h q e = (∃ fs, insM h x = some (C, fs) ∧ Φ [x, .int i] h q NoX) := by
    unfold bOpI
    exact propext ⟨fun ⟨fs, j, a, b, c⟩ => ⟨fs, a, c⟩, fun ⟨fs, a, c⟩ => ⟨fs, i, a, rfl, c⟩⟩
  rw [e1]
  exact insK_eq
@[simp ↓] theorem bRopI_s {i : Int} : bRopI C Φ (.int i) y h q e = insK h y (kOpO2 C Φ y (.int i) h q) := by
  have e1 : bRopI C Φ (.int i) y h q e = (∃ fs, insM h y = some (C, fs) ∧ Φ [y, .int i] h q NoX) := by
    unfold bRopI
    exact propext ⟨fun ⟨fs, j, a, b, c⟩ => ⟨fs, a, c⟩, fun ⟨fs, a, c⟩ => ⟨fs, i, a, rfl, c⟩⟩
  rw [e1]
  exact insK_eq
end
end MM
end
section
namespace MM
open PySem PySem.Spec PyProof.Rows L2
/-! ### y = [..], frozen -/
def frzS (N : L2.St → Hp → Prop) : L2.St → Hp → Prop := fun σ H => N σ H ∨ ∃ p vs, H p = some (.lst vs) ∧ ∀ o, N σ (upd H p (.frz o (.lst vs)))
theorem sp_fz {X : Cx} {pins : List (Addr × Obj)} {D : Ends} {f : Flow} {s : Shared} (z : SP X pins { D with nx := frzS D.nx } f s) : SP X pins D f s := by
  cases f with
  | next =>
    obtain ⟨σ', H', I', z⟩ := z
    rcases z with z | ⟨p, vs, e, z⟩
    · exact ⟨σ', H', I', z⟩
    · obtain ⟨o, I2⟩ := inv_frz I' e
      exact ⟨_, _, I2, z o⟩
  | _ => exact z
def fzN2 (i : Nat) (d : MD) (ρ' : En) (h1 : MH) : Option (Option MV) → Prop
  | some (some v) => kFz (fun v' h' => d.nx (ρ'.set i (some v')) h') v h1
  | _ => d.nx ρ' h1
def fzN (i : Nat) (d : MD) : En → MH → Prop := fun ρ' h1 => fzN2 i d ρ' h1 (ρ'[i]?)
theorem ss_fz {X : Cx} {i : Nat} {y : Str} {st : Stmt} {w : WE} (x : SS X st (wAsg w (gmName i))) (hi : X.N[i]? = some y := by rfl) : SS X st (wAsg (wFz w) (gmName i)) := by
  refine ⟨fun pins s σ H D I ⟨ρ, h, d, sr, hr, tk, w1, n, r, b, c⟩ => ?_⟩
  have hl : i < ρ.length := by
    rw [sr.len, I.len]
    exact (List.getElem?_eq_some_iff.mp hi).1
  have e1 : (fun v h1 => fzN i d (ρ.set i (some v)) h1) = kFz (fun v h1 => d.nx (ρ.set i (some v)) h1) := by
    funext v h1
    have e : (ρ.set i (some v))[i]? = some (some v) := by rw [List.getElem?_set_self hl]
    show fzN2 i d (ρ.set i (some v)) h1 ((ρ.set i (some v))[i]?) = _
    rw [e]
    show kFz (fun v' h' => d.nx ((ρ.set i (some v)).set i (some v')) h') v h1 = _
    simp only [List.set_set]
  refine wpAny_mono (x.run pins s σ H { D with nx := frzS D.nx } I ⟨ρ, h, { d with nx := fzN i d }, sr, hr, tk, ?_, ?_, r, b, c⟩) (fun _ _ z => sp_fz z) fun _ _ z => z
  · show w ρ h (fun v h1 => fzN i d (ρ.set i (some v)) h1) (d.at_ ρ)
    rw [e1]
    exact w1
  · intro ρ' σ' h' H' t' sr' hr' z
    have z : fzN2 i d ρ' h' (ρ'[i]?) := z
    unfold fzN2 at z
    split at z
    · rename_i v ev
      obtain ⟨vv, e2, vr⟩ := sr'.get i v ev
      have := fz_ok (X := X) (q := fun v' h' => d.nx (ρ'.set i (some v')) h') (H := H') (Q := fun u H2 => u = vv → D.nx σ' H2) (fun mv u h2 H2 t2 r2 v2 q2 eu => by
        subst eu
        refine n _ _ h2 H2 (t'.trans t2) ?_ r2 q2
        have s2 := (sr'.tk t2).set (i := i) v2
        have e3 : σ'.set i (some u) = σ' := by
          have hl2 : i < σ'.length := (List.getElem?_eq_some_iff.mp e2).1
          have e4 : σ'[i] = some u := (List.getElem?_eq_some_iff.mp e2).2
          rw [← e4]
          exact List.set_getElem_self hl2
        rw [e3] at s2
        exact s2) (TK.refl H') hr' vr z
      rcases this with z | ⟨p, vs, e, z⟩
      · exact .inl (z rfl)
      · exact .inr ⟨p, vs, e, fun o => z o rfl⟩
    · exact .inl (n _ _ h' H' t' sr' hr' z)
/-! ### data -/
def eqP (x y : MV) : Bool := PyData.eqv (dM x) (dM y)
/-- data of depth d at most, shown in m signs at most -/
structure Dt (d m : Nat) (x : MV) : Prop where
  f : flt x = true
  c : (dM x).canLay0 = true
  p : (dM x).depth ≤ d
  s : (dM x).showable = true
  l : (dM x).shown.length ≤ m
theorem Dt.mono {d m d' m' : Nat} {x : MV} (t : Dt d m x) (h : d ≤ d') (h2 : m ≤ m') : Dt d' m' x := ⟨t.f, t.c, Nat.le_trans t.p h, t.s, Nat.le_trans t.l h2⟩
theorem Dt.sh {d m : Nat} {x : MV} (t : Dt d m x) (h : d ≤ 64) : SeqAt.shaped (dM x) = true := by
  unfold SeqAt.shaped
  exact Bool.and_eq_true_iff.mpr ⟨t.c, decide_eq_true (Nat.le_trans t.p h)⟩
theorem eqP_refl {d m : Nat} {x : MV} (t : Dt d m x) : eqP x x = true := SeqAt.eqv_refl _ t.c
theorem bEq_dt {n : Bool} {d m d' m' : Nat} {x y : MV} {h : MH} {q : QV} {e : QX} (t : Dt d m x) (t' : Dt d' m' y) (z : q (.bl (n ^^ eqP x y)) h) (h1 : d ≤ 64 := by decide) (h2 : d' ≤ 64 := by decide) : bEqB n x y h q e := by
  have g : ∃ d e, DT h d x ∧ DT h e y ∧ SeqAt.shaped d = true ∧ SeqAt.shaped e = true ∧ q (.bl (n ^^ PyData.eqv d e)) h := ⟨dM x, dM y, dt_dM x t.f, dt_dM y t'.f, t.sh h1, t'.sh h2, z⟩
  unfold bEqB
  split
  · simp only [eqP, dM, PyData.eqv] at z
    rename_i i j
    have : (i == j) = decide (i = j) := by by_cases q : i = j <;> simp [q]
    rw [this] at z
    exact z
  · simp only [eqP, dM, PyData.eqv] at z
    rename_i i j
    have : (i == j) = decide (i = j) := by by_cases q : i = j <;> simp [q]
    rw [this] at z
    exact z
  · exact g
theorem rp_dt {d m : Nat} {x : MV} {h : MH} {q : QV} {e : QX} (t : Dt d m x) (z : q (.str (dM x).shown) h) (h1 : d ≤ 64 := by decide) (h2 : m ≤ sizeLine := by decide) : spRepr [x] h q e := rp_i (dM x) (dt_dM x t.f) t.s (t.sh h1) (Nat.le_trans t.l h2) z
theorem tupText_len {ts : List Str} : (tupleText ts).length ≤ piled ts + 4 := by
  unfold tupleText
  simp only [Str.length_append]
  have a : (("(" : Str)).length = 1 := by decide +kernel
  have b : (Str.ofString (if (ts.length == 1) = true then ",)" else ")")).length ≤ 2 := by split <;> decide +kernel
  have c : (Str.join ", " ts).length ≤ piled ts := by
    by_cases h : ts = []
    · subst h
      exact Nat.le_of_eq (by decide +kernel)
    · exact Nat.le_of_add_right_le (Nat.le_of_eq (join_length_add ts h))
  omega
theorem textFrom_le : ∀ (ts : List Str) (k : Nat) (acc : Str), (textFrom k acc ts).length ≤ acc.length + piled ts
  | [], k, acc => by simp [textFrom, piled_nil]
  | t :: r, k, acc => by
    have ih := textFrom_le r (k + 1) (acc ++ (if k > 0 then ", " else "" : String) ++ t)
    refine Nat.le_trans (show (textFrom (k + 1) _ r).length ≤ _ from ih) ?_
    rw [Str.length_append, Str.length_append, piled_cons]
    have b : (Str.ofString (if k > 0 then ", " else "")).length ≤ 2 := by split <;> decide +kernel
    omega
theorem lisText_len {ts : List Str} : (listText ts).length ≤ piled ts + 4 := by
  show (textFrom 0 "[" ts ++ "]").length ≤ _
  rw [Str.length_append]
  have a : (("[" : Str)).length = 1 := by decide +kernel
  have b : (("]" : Str)).length = 1 := by decide +kernel
  have c := textFrom_le ts 0 "["
  omega
theorem piled_le {ts : List Str} {b : Nat} (h : ∀ t ∈ ts, t.length ≤ b) : piled ts ≤ ts.length * (b + 2) := by
  induction ts with
  | nil => simp [piled_nil]
  | cons t l ih =>
    have h1 := h t (by simp)
    have h2 := ih fun t m => h t (by simp [m])
    rw [piled_cons, List.length_cons, Nat.succ_mul]
    omega
theorem shownAll_map : ∀ ds : List PyData, PyData.shownAll ds = ds.map PyData.shown
  | [] => rfl
  | d :: ds => by simp only [PyData.shownAll, List.map_cons, shownAll_map ds]
theorem dMs_map : ∀ xs : List MV, dMs xs = xs.map dM
  | [] => rfl
  | x :: xs => by simp only [dMs, List.map_cons, dMs_map xs]
theorem Dt.all {d m : Nat} : ∀ {xs : List MV}, (∀ x ∈ xs, Dt d m x) → flts xs = true ∧ PyData.canLayAll0 (dMs xs) = true ∧ PyData.depthAll (dMs xs) ≤ d ∧ PyData.showableAll (dMs xs) = true ∧ piled (PyData.shownAll (dMs xs)) ≤ xs.length * (m + 2)
  | [], _ => by simp [flts, dMs, PyData.canLayAll0, PyData.depthAll, PyData.showableAll, PyData.shownAll, piled_nil]
  | x :: xs, h => by
    have t := h x (by simp)
    obtain ⟨b1, b2, b3, b4, b5⟩ := Dt.all (xs := xs) fun y m => h y (List.mem_cons_of_mem _ m)
    refine ⟨by simp only [flts, t.f, b1, Bool.and_true], by simp only [dMs, PyData.canLayAll0, t.c, b2, Bool.and_true], ?_, by simp only [dMs, PyData.showableAll, t.s, b4, Bool.and_true], ?_⟩
    · simp only [dMs, PyData.depthAll]
      exact Nat.max_le.mpr ⟨t.p, b3⟩
    · simp only [dMs, PyData.shownAll]
      rw [piled_cons, List.length_cons, Nat.succ_mul]
      have := t.l
      omega
theorem Dt.tup {d m : Nat} {xs : List MV} (h : ∀ x ∈ xs, Dt d m x) : Dt (d + 1) (xs.length * (m + 2) + 4) (.tup xs) := by
  obtain ⟨b1, b2, b3, b4, b5⟩ := Dt.all h
  refine ⟨by simp only [flt, b1], by simp only [dM, PyData.canLay0, b2], by simp only [dM, PyData.depth]; exact Nat.succ_le_succ b3, by simp only [dM, PyData.showable, b4], ?_⟩
  simp only [dM, PyData.shown]
  exact Nat.le_trans tupText_len (Nat.add_le_add_right b5 4)
theorem Dt.lis {d m : Nat} {xs : List MV} (h : ∀ x ∈ xs, Dt d m x) : Dt (d + 1) (xs.length * (m + 2) + 4) (.lis xs) := by
  obtain ⟨b1, b2, b3, b4, b5⟩ := Dt.all h
  refine ⟨by simp only [flt, b1], by simp only [dM, PyData.canLay0, b2], by simp only [dM, PyData.depth]; exact Nat.succ_le_succ b3, by simp only [dM, PyData.showable, b4], ?_⟩
  simp only [dM, PyData.shown]
  exact Nat.le_trans lisText_len (Nat.add_le_add_right b5 4)
/-- so many at most -/
theorem Dt.tupN {d m n k : Nat} {xs : List MV} (h : ∀ x ∈ xs, Dt d m x) (l : xs.length ≤ n) (e : n * (m + 2) + 4 ≤ k := by decide) : Dt (d + 1) k (.tup xs) := (Dt.tup h).mono (Nat.le_refl _) (Nat.le_trans (Nat.add_le_add_right (Nat.mul_le_mul_right _ l) 4) e)
theorem Dt.lisN {d m n k : Nat} {xs : List MV} (h : ∀ x ∈ xs, Dt d m x) (l : xs.length ≤ n) (e : n * (m + 2) + 4 ≤ k := by decide) : Dt (d + 1) k (.lis xs) := (Dt.lis h).mono (Nat.le_refl _) (Nat.le_trans (Nat.add_le_add_right (Nat.mul_le_mul_right _ l) 4) e)
theorem Dt.int {i : Int} (h : i.natAbs ≤ 10 ^ 30) : Dt 0 40 (.int i) := by
  refine ⟨rfl, rfl, Nat.le_refl _, ?_, ?_⟩
  · simp only [dM, PyData.showable]
    refine decide_eq_true ?_
    by_cases q : i.natAbs = 0
    · rw [q]; decide
    · exact (Nat.log2_lt q).mpr (Nat.lt_of_le_of_lt h (Nat.lt_of_lt_of_le (show 10 ^ 30 < 2 ^ 100 by decide) (Nat.pow_le_pow_right (by decide) (by decide))))
  · simp only [dM, PyData.shown]
    have := int_text_length_le10 (a := i) (k := 31) (by decide) (Nat.lt_of_le_of_lt h (by decide))
    show (Str.ofString (toString i)).length ≤ 40
    rw [PySem.ofString_length]
    omega
theorem Dt.bl {b : Bool} : Dt 0 5 (.bl b) := by cases b <;> exact ⟨rfl, rfl, Nat.le_refl _, rfl, by simp only [dM, PyData.shown]; decide +kernel⟩
theorem Dt.non : Dt 0 4 .non := ⟨rfl, rfl, Nat.le_refl _, rfl, by simp only [dM, PyData.shown]; decide +kernel⟩
/-- what a text must be -/
def strB (n : Nat) (x : Str) : Bool := (PyData.str x).canLay0 && decide ((PyData.shown (.str x)).length ≤ n)
theorem Dt.str {n : Nat} {x : Str} (h : strB n x = true) : Dt 0 n (.str x) := by
  unfold strB at h
  have ⟨a, b⟩ := Bool.and_eq_true_iff.mp h
  exact ⟨rfl, a, Nat.le_refl _, rfl, of_decide_eq_true b⟩
end MM
end
section
namespace MM
open PySem PySem.Spec PyProof.Rows L2
/-- a def that only tells something of its one argument -/
def pure1 (ok : MV → MH → Prop) (f : MV → MH → MV) : Spec := fun args h q _ => ∃ x, args = [x] ∧ ok x h ∧ q (f x h) h
@[simp ↓] theorem pure1_s {ok : MV → MH → Prop} {f : MV → MH → MV} {x : MV} {h : MH} {q : QV} {e : QX} : pure1 ok f [x] h q e = (ok x h ∧ q (f x h) h) := propext ⟨fun ⟨y, e1, b⟩ => by cases e1; exact b, fun b => ⟨x, rfl, b⟩⟩
def isInt : MV → Bool
  | .int _ => true
  | _ => false
@[simp] theorem isInt_int {i : Int} : isInt (.int i) = true := rfl
theorem typK_of {x : MV} {h : MH} {k : Value → Prop} {t : Value} (e : typM h x = some t) (z : k t) : typK h x k := by unfold typK; rw [e]; exact z
def Num (u : Int) : Prop := 0 ≤ u ∧ u ≤ 1000000000
/-- a good event -/
def GoodEv (x : MV) : Prop := (∃ k ∈ (["erase", "fall"] : List Str), x = .tup [.str k]) ∨ (∃ k, ∃ u : Int, k ∈ (["open", "close", "drop", "sweep", "work", "age"] : List Str) ∧ Num u ∧ x = .tup [.str k, .int u]) ∨
  ∃ u p v : Int, Num u ∧ 0 ≤ p ∧ p < 3 ∧ 1 ≤ v ∧ v ≤ 1000000000 ∧ x = .tup [.str "put", .int u, .int p, .int v]
@[simp] theorem str_injS {a b : String} : (Str.ofString a = Str.ofString b) = (a = b) := str_inj
section
variable {h : MH} {q : QV}
@[simp ↓] theorem kAllS_0 : kAllS h q (some (.lst [])) = q (.bl true) h := kAllS_s (bs := [])
@[simp ↓] theorem kAllS_1 {a : Bool} : kAllS h q (some (.lst [.bl a])) = q (.bl a) h := (kAllS_s (bs := [a])).trans (by simp)
@[simp ↓] theorem kAllS_3 {a b c : Bool} : kAllS h q (some (.lst [.bl a, .bl b, .bl c])) = q (.bl (a && (b && c))) h := (kAllS_s (bs := [a, b, c])).trans (by simp)
end
section
variable {h : MH} {q : QV} {e : QX}
/-! ### dicts written out -/
def kGetL (k : Key) (h : MH) (q : QV) : List (Key × MV) → Prop
  | [] => False
  | (k', v) :: r => if k' = k then q v h else kGetL k h q r
@[simp ↓] theorem kGetL_n {k : Key} : kGetL k h q [] = False := rfl
@[simp ↓] theorem kGetL_i {k : Int} {v : MV} {j : Int} {r : List (Key × MV)} : kGetL (.inl k) h q ((.inl j, v) :: r) = if j = k then q v h else kGetL (.inl k) h q r := by simp [kGetL]
@[simp ↓] theorem kGetL_s {k : Str} {v : MV} {j : Str} {r : List (Key × MV)} : kGetL (.inr k) h q ((.inr j, v) :: r) = if j = k then q v h else kGetL (.inr k) h q r := by simp [kGetL]
theorem kGet_L {k : Key} : ∀ {kvs : List (Key × MV)}, (match valM kvs k with | some v => q v h | none => False) = kGetL k h q kvs
  | [] => by simp [valM, kGetL]
  | (k', v) :: r => by
    have ih := kGet_L (k := k) (kvs := r)
    unfold kGetL
    by_cases e : k' = k
    · simp [valM, e]
    · simp only [e, if_false]
      rw [← ih]
      simp [valM, e]
@[simp ↓] theorem kGet_s {z : Str} {kvs : List (Key × MV)} : kGet (.str z) h q (some (.dK kvs)) = kGetL (.inr z) h q kvs := kGet_L
@[simp ↓] theorem kGet_i {z : Int} {kvs : List (Key × MV)} : kGet (.int z) h q (some (.dK kvs)) = kGetL (.inl z) h q kvs := kGet_L
def kPop (p : Addr) (h : MH) (q : QV) : Option MO → Prop := fun o => match o with
  | some (.lst xs) => ∃ y, xs[xs.length - 1]? = some y ∧ q y (h.put p (.lst xs.dropLast))
  | _ => False
@[simp ↓] theorem kPop_s {p : Addr} {ns : List MV} {y : MV} : kPop p h q (some (.lst (ns ++ [y]))) = q y (h.put p (.lst ns)) := by
  show (∃ z, (ns ++ [y])[(ns ++ [y]).length - 1]? = some z ∧ q z (h.put p (.lst (ns ++ [y]).dropLast))) = _
  simp
@[simp ↓] theorem mPop_s {p : Addr} : mPop (.ref p) [] h q e = atK h p (kPop p h q) := by
  unfold atK kPop
  show (∃ xs y, h.at_ p = some (.lst xs) ∧ xs[xs.length - 1]? = some y ∧ q y (h.put p (.lst xs.dropLast))) = _
  refine propext ⟨fun ⟨xs, y, e1, e2, z⟩ => by rw [e1]; exact ⟨y, e2, z⟩, fun z => ?_⟩
  split at z
  · rename_i xs ep
    obtain ⟨y, e2, z⟩ := z
    exact ⟨xs, y, ep, e2, z⟩
  · exact z.elim
end
theorem MH.put_comm (h : MH) {a b : Addr} (x y : MO) (n : a ≠ b) : (h.put a x).put b y = (h.put b y).put a x := by
  unfold MH.put
  congr 1
  funext c
  by_cases e1 : c = b
  · have e2 : ¬ c = a := fun z => n (z.symm.trans e1)
    simp [e1]
    exact fun z => absurd z.symm n
  · by_cases e2 : c = a
    · simp [e2]
      exact fun z => absurd z n
    · simp [e1, e2]
theorem MH.put_id {h : MH} {a : Addr} {o : MO} (e : h.at_ a = some o) : h.put a o = h := MH.ext (by
  funext b
  show (if b = a then some o else h.at_ b) = h.at_ b
  by_cases q : b = a
  · rw [if_pos q, q, e]
  · rw [if_neg q]) rfl rfl
def MH.bare (h : MH) : MH := ⟨h.at_, none, 0, h.fin⟩
@[simp] theorem MH.bare_at (h : MH) (a : Addr) : h.bare.at_ a = h.at_ a := rfl
/-- the source of draws, hidden -/
def MH.dealt (h : MH) (d g : Addr) : MH := ⟨h.at_, some ⟨0, d, g⟩, 2 ^ 64, h.fin⟩
@[simp] theorem MH.dealt_at (h : MH) (d g a : Addr) : (h.dealt d g).at_ a = h.at_ a := rfl
theorem MH.put_none {h : MH} {a b : Addr} {o : MO} : (h.put a o).at_ b = none ↔ b ≠ a ∧ h.at_ b = none := by
  by_cases q : b = a
  · simp [q]
  · simp [q]
theorem MH.put3 {h : MH} {a b : Addr} {x y z : MO} (n : b ≠ a) : ((h.put a x).put b y).put a z = (h.put a z).put b y := by
  rw [MH.put_comm _ _ _ n, MH.put_put]
/-! ### the source of draws -/
section
variable {a b c e v : MV}
theorem put_now : putKM [((.inr "great" : Key), a), (.inr "now", b), (.inr "mixed", c), (.inr "turn", e)] (.inr "now") v = [(.inr "great", a), (.inr "now", v), (.inr "mixed", c), (.inr "turn", e)] := by simp [putKM]
theorem put_mixed : putKM [((.inr "great" : Key), a), (.inr "now", b), (.inr "mixed", c), (.inr "turn", e)] (.inr "mixed") v = [(.inr "great", a), (.inr "now", b), (.inr "mixed", v), (.inr "turn", e)] := by simp [putKM]
theorem put_turn : putKM [((.inr "great" : Key), a), (.inr "now", b), (.inr "mixed", c), (.inr "turn", e)] (.inr "turn") v = [(.inr "great", a), (.inr "now", b), (.inr "mixed", c), (.inr "turn", v)] := by simp [putKM]
end
def dealD (g : Addr) (now mixed turn : Int) : MO := .dK [(.inr "great", .ref g), (.inr "now", .int now), (.inr "mixed", .int mixed), (.inr "turn", .int turn)]
def Small (z : Int) : Prop := 0 ≤ z ∧ z.natAbs.log2 ≤ 2000000
theorem Small.div {z m : Int} (s : Small z) (h : 1 ≤ m) : Small (z / m) := by
  refine ⟨Int.ediv_nonneg s.1 (by omega), Nat.le_trans ?_ s.2⟩
  have h1 : (z / m).natAbs ≤ z.natAbs := by
    have := Int.ediv_le_self m s.1
    have := Int.ediv_nonneg s.1 (show 0 ≤ m by omega)
    have := s.1
    omega
  by_cases h0 : (z / m).natAbs = 0
  · rw [h0]; simp
  · exact (Nat.le_log2 (by omega)).mpr (Nat.le_trans (Nat.log2_self_le h0) h1)
theorem mul_ok {i j : Int} (h1 : i.natAbs < 2 ^ 70) (h2 : j.natAbs < 2 ^ 70) : CMulX i j := by
  have f : ∀ n : Nat, n < 2 ^ 70 → n.log2 ≤ 70 := fun n h => by
    by_cases h0 : n = 0
    · rw [h0]; simp
    · exact Nat.le_of_lt ((Nat.log2_lt h0).mpr h)
  have := f _ h1
  have := f _ h2
  unfold CMulX
  omega
/-! ### dict displays -/
section
variable {ρ : En} {h : MH} {q : QV} {e : QX}
def kPr3 (x : MV × MV) (q : List (MV × MV) → MH → Prop) : List (MV × MV) → MH → Prop := fun ps h => q (x :: ps) h
@[simp ↓] theorem kPr3_s {x : MV × MV} {q : List (MV × MV) → MH → Prop} {ps : List (MV × MV)} : kPr3 x q ps h = q (x :: ps) h := rfl
def kPr2 (x : MV) (r : List (WE × WE)) (ρ : En) (q : List (MV × MV) → MH → Prop) (e : QX) : QV := fun y h => wPrs r ρ h (kPr3 (x, y) q) e
@[simp ↓] theorem kPr2_s {x y : MV} {r : List (WE × WE)} {q : List (MV × MV) → MH → Prop} : kPr2 x r ρ q e y h = wPrs r ρ h (kPr3 (x, y) q) e := rfl
def kPr1 (v : WE) (r : List (WE × WE)) (ρ : En) (q : List (MV × MV) → MH → Prop) (e : QX) : QV := fun x h => v ρ h (kPr2 x r ρ q e) e
@[simp ↓] theorem kPr1_s {x : MV} {v : WE} {r : List (WE × WE)} {q : List (MV × MV) → MH → Prop} : kPr1 v r ρ q e x h = v ρ h (kPr2 x r ρ q e) e := rfl
@[simp ↓] theorem wPrs_n {q : List (MV × MV) → MH → Prop} : wPrs [] ρ h q e = q [] h := rfl
@[simp ↓] theorem wPrs_c {k v : WE} {r : List (WE × WE)} {q : List (MV × MV) → MH → Prop} : wPrs ((k, v) :: r) ρ h q e = k ρ h (kPr1 v r ρ q e) e := rfl
def kDisp (p : Addr) (q : QV) : List (MV × MV) → MH → Prop := fun ps h2 => h2.at_ p = some (.dK []) ∧ ∃ kvs : List (Key × MV), ps = kvs.map (fun kv => (kM kv.1, kv.2)) ∧ kvs.length ≤ 15 ∧ q (.ref p) (h2.put p (.dK (mergeM [] kvs)))
theorem wDisp_i {ws : List (WE × WE)} (z : ∀ p, h.at_ p = none → wPrs ws ρ (h.put p (.dK [])) (kDisp p q) e) : wDisp ws ρ h q e := z
end
@[simp ↓] theorem atK_sp {h : MH} {c : Nat} {p : Addr} {k : Option MO → Prop} : atK (h.sp c) p k = atK h p k := rfl
theorem atIK_nat {α : Type} {xs : List α} {i : Int} {k : α → Prop} (h0 : 0 ≤ i) (h1 : i < xs.length) (z : ∀ y, xs[i.toNat]? = some y → k y) : atIK xs i k := by
  have hl : i.toNat < xs.length := by omega
  have e : atI xs i = xs[i.toNat]? := by
    unfold atI
    have : ixN xs.length i = some i.toNat := by
      unfold ixN
      rw [if_pos h0, if_pos h1]
    rw [this] <;> rfl
  unfold atIK
  rw [e, List.getElem?_eq_getElem hl]
  exact z _ (List.getElem?_eq_getElem hl)
theorem MH.src.sp {h : MH} {x : MV} {c d e : Nat} (s : h.src x c) (l : d + e ≤ c) : (h.sp d).src x e := ⟨s.1, by have := s.2; simp; omega⟩
/-- the upload that an event names -/
def upOf : MV → Option Int
  | .tup (_ :: .int u :: _) => some u
  | _ => none
def ups (xs : List MV) : List Int := xs.filterMap upOf
/-- how good events look to len and [1] -/
theorem good_up {x : MV} (g : GoodEv x) : (∃ k, x = .tup [k] ∧ upOf x = none) ∨ ∃ k u r, x = .tup (k :: .int u :: r) ∧ upOf x = some u ∧ Num u ∧ r.length ≤ 2 := by
  rcases g with ⟨k, hk, rfl⟩ | ⟨k, u, hk, hu, rfl⟩ | ⟨u, p, v, hu, hp, hp3, hv, hv2, rfl⟩
  · exact .inl ⟨_, rfl, rfl⟩
  · exact .inr ⟨_, u, [], rfl, rfl, hu, by simp⟩
  · exact .inr ⟨_, u, _, rfl, rfl, hu, by simp⟩
def isNum (y : MV) : Prop := ∃ i : Int, 0 ≤ i ∧ i ≤ 1000000 ∧ y = .int i
def kEvent (x : MV) (us : List MV) (parts : Int) (q : QV) (h : MH) : Prop := 1 ≤ us.length ∧ us.length ≤ 4 ∧ (∀ y ∈ us, isNum y) ∧ h.src x 5 ∧ 1 ≤ parts ∧ parts ≤ 3 ∧ ∀ y, GoodEv y → (∀ u, upOf y = some u → MV.int u ∈ us) → q y (h.sp 5)
def S_event : Spec := fun args h q _ => match args with
  | [x, .lis us, .int parts] => kEvent x us parts q h
  | _ => False
@[simp ↓] theorem S_event_s {x : MV} {us : List MV} {parts : Int} {h : MH} {q : QV} {e : QX} : S_event [x, .lis us, .int parts] h q e = (1 ≤ us.length ∧ us.length ≤ 4 ∧ (∀ y ∈ us, isNum y) ∧ h.src x 5 ∧ 1 ≤ parts ∧ parts ≤ 3 ∧ ∀ y, GoodEv y → (∀ u, upOf y = some u → MV.int u ∈ us) → q y (h.sp 5)) := rfl
/-- one of some things -/
def kPick (x : MV) (h : MH) (q : QV) : List MV → Prop := fun xs => h.src x 1 ∧ 1 ≤ xs.length ∧ xs.length ≤ 1000 ∧ ∀ y ∈ xs, q y (h.sp 1)
@[simp ↓] theorem kPick_s {x : MV} {h : MH} {q : QV} {xs : List MV} : kPick x h q xs = (h.src x 1 ∧ 1 ≤ xs.length ∧ xs.length ≤ 1000 ∧ ∀ y ∈ xs, q y (h.sp 1)) := rfl
def S_pick : Spec := fun args h q _ => match args with
  | [x, s] => seqK h s (kPick x h q)
  | _ => False
@[simp ↓] theorem S_pick_s {x s : MV} {h : MH} {q : QV} {e : QX} : S_pick [x, s] h q e = seqK h s (kPick x h q) := rfl
def S_numbers : Spec := fun args h q _ => match args with
  | [x] => h.src x 5 ∧ ∀ ys : List MV, 1 ≤ ys.length → ys.length ≤ 4 → (∀ y ∈ ys, isNum y) → q (.lis ys) (h.sp 5)
  | _ => False
@[simp ↓] theorem S_numbers_s {x : MV} {h : MH} {q : QV} {e : QX} : S_numbers [x] h q e = (h.src x 5 ∧ ∀ ys : List MV, 1 ≤ ys.length → ys.length ≤ 4 → (∀ y ∈ ys, isNum y) → q (.lis ys) (h.sp 5)) := rfl
/-- events drawn, at most many -/
structure Evs (many : Int) (ys : List MV) : Prop where
  len : ys.length ≤ many.toNat
  good : ∀ y ∈ ys, GoodEv y
  us : ∃ us : List MV, us.length ≤ 4 ∧ ∀ y ∈ ys, ∀ u, upOf y = some u → MV.int u ∈ us
def S_events : Spec := fun args h q _ => match args with
  | [x, .int parts, .int many] => h.src x 600 ∧ 1 ≤ parts ∧ parts ≤ 3 ∧ 0 ≤ many ∧ many ≤ 100 ∧ ∀ ys : List MV, Evs many ys → q (.lis ys) (h.sp 600)
  | _ => False
@[simp ↓] theorem S_events_s {x : MV} {parts many : Int} {h : MH} {q : QV} {e : QX} : S_events [x, .int parts, .int many] h q e = (h.src x 600 ∧ 1 ≤ parts ∧ parts ≤ 3 ∧ 0 ≤ many ∧ many ≤ 100 ∧ ∀ ys : List MV, Evs many ys → q (.lis ys) (h.sp 600)) := rfl
theorem seqM_cases {h : MH} {x : MV} {xs : List MV} (e : seqM h x = some xs) : x = .tup xs ∨ x = .lis xs ∨ ∃ p, x = .ref p ∧ h.at_ p = some (.lst xs) := by
  cases x with
  | tup ys => cases e; exact .inl rfl
  | lis ys => cases e; exact .inr (.inl rfl)
  | ref p =>
    simp only [seqM] at e
    split at e
    · rename_i ys ep; cases e; exact .inr (.inr ⟨p, rfl, ep⟩)
    · cases e
  | _ => cases e
theorem seqK_get {h : MH} {x : MV} {k : List MV → Prop} (z : seqK h x k) : ∃ xs, seqM h x = some xs ∧ k xs := by
  unfold seqK at z
  split at z
  · rename_i xs e; exact ⟨xs, e, z⟩
  · exact z.elim
theorem seqK_of {h : MH} {x : MV} {k : List MV → Prop} {xs : List MV} (e : seqM h x = some xs) : seqK h x k = k xs := by unfold seqK; rw [e]
def cAt (own : List Addr) (i : Nat) : Addr := own.getD i 0
def kG2 (j : Nat) (y : MV) (q : En → MH → Prop) (e : QX) : En → MH → Prop := fun ρ h => gmName j y ρ h q e
@[simp ↓] theorem kG2_s {j : Nat} {y : MV} {q : En → MH → Prop} {e : QX} {ρ : En} {h : MH} : kG2 j y q e ρ h = gmName j y ρ h q e := rfl
@[simp ↓] theorem gmTup_2 {i j : Nat} {x y : MV} {q : En → MH → Prop} {e : QX} {ρ : En} {h : MH} : gmTup [i, j] (.tup [x, y]) ρ h q e = gmName i x ρ h (kG2 j y q e) e := by
  show (([] : List MV) = [] ∧ q ((ρ.set i (some x)).set j (some y)) h) = q ((ρ.set i (some x)).set j (some y)) h
  simp
/-! ### events as data -/
theorem small_show {i : Int} (h0 : 0 ≤ i) (h1 : i ≤ 1000000000) : i.natAbs.log2 < 1920 := by
  by_cases h : i.natAbs = 0
  · rw [h]; decide
  · exact (Nat.log2_lt h).mpr (Nat.lt_of_lt_of_le (show i.natAbs < 2 ^ 41 by omega) (Nat.pow_le_pow_right (by decide) (by decide)))
theorem good_data {x : MV} (g : GoodEv x) : flt x = true ∧ (dM x).canLay0 = true ∧ (dM x).depth = 1 ∧ (dM x).showable = true := by
  rcases g with ⟨k, hk, rfl⟩ | ⟨k, u, hk, hu, rfl⟩ | ⟨u, p, v, hu, hp, hp3, hv, hv2, rfl⟩
  · simp only [List.mem_cons, List.mem_nil_iff, or_false] at hk
    rcases hk with rfl | rfl <;> simp [flt, flts, dM, dMs, PyData.canLay0, PyData.canLayAll0, PyData.depth, PyData.depthAll, PyData.showable, PyData.showableAll] <;> decide +kernel
  · simp only [List.mem_cons, List.mem_nil_iff, or_false] at hk
    have := small_show hu.1 hu.2
    rcases hk with rfl | rfl | rfl | rfl | rfl | rfl <;> simp [flt, flts, dM, dMs, PyData.canLay0, PyData.canLayAll0, PyData.depth, PyData.depthAll, PyData.showable, PyData.showableAll, this] <;> decide +kernel
  · have h1 := small_show hu.1 hu.2
    have h2 := small_show hp (show p ≤ 1000000000 by omega)
    have h3 := small_show (show 0 ≤ v by omega) hv2
    simp [flt, flts, dM, dMs, PyData.canLay0, PyData.canLayAll0, PyData.depth, PyData.depthAll, PyData.showable, PyData.showableAll, h1, h2, h3]
    decide +kernel
theorem goods_data : ∀ {xs : List MV}, (∀ x ∈ xs, GoodEv x) → flts xs = true ∧ PyData.canLayAll0 (dMs xs) = true ∧ PyData.depthAll (dMs xs) ≤ 1 ∧ PyData.showableAll (dMs xs) = true
  | [], _ => by simp [flts, dMs, PyData.canLayAll0, PyData.depthAll, PyData.showableAll]
  | x :: xs, h => by
    obtain ⟨a1, a2, a3, a4⟩ := good_data (h x (by simp))
    obtain ⟨b1, b2, b3, b4⟩ := goods_data (xs := xs) fun y m => h y (List.mem_cons_of_mem _ m)
    refine ⟨by simp only [flts, a1, b1, Bool.and_true], by simp only [dMs, PyData.canLayAll0, a2, b2, Bool.and_true], ?_, by simp only [dMs, PyData.showableAll, a4, b4, Bool.and_true]⟩
    simp only [dMs, PyData.depthAll, a3]
    exact Nat.max_le.mpr ⟨Nat.le_refl _, b3⟩
theorem goods_shaped {xs : List MV} (h : ∀ x ∈ xs, GoodEv x) : SeqAt.shaped (.tuple (dMs xs)) = true := by
  obtain ⟨_, b2, b3, _⟩ := goods_data h
  unfold SeqAt.shaped
  refine Bool.and_eq_true_iff.mpr ⟨by simp only [PyData.canLay0, b2], decide_eq_true ?_⟩
  simp only [PyData.depth]
  exact Nat.le_trans (Nat.succ_le_succ b3) (by decide)
theorem goods_dt {h : MH} {xs : List MV} (g : ∀ x ∈ xs, GoodEv x) : DT h (.tuple (dMs xs)) (.tup xs) := by
  simp only [DT]
  exact ⟨xs, rfl, dts_dM xs (goods_data g).1⟩
/-- == of two tuples of events -/
theorem bEq_ev {n : Bool} {xs ys : List MV} {h : MH} {q : QV} {e : QX} (hx : ∀ x ∈ xs, GoodEv x) (hy : ∀ x ∈ ys, GoodEv x) (z : q (.bl (n ^^ PyData.eqv (.tuple (dMs xs)) (.tuple (dMs ys)))) h) : bEqB n (.tup xs) (.tup ys) h q e :=
  ⟨_, _, goods_dt hx, goods_dt hy, goods_shaped hx, goods_shaped hy, z⟩
/-! ### len of a dict -/
def kLenD (q : QV) (h : MH) : Option MO → Prop := fun o => match o with
  | some (.dK kvs) => q (.int kvs.length) h
  | _ => False
@[simp ↓] theorem kLenD_s {q : QV} {h : MH} {kvs : List (Key × MV)} : kLenD q h (some (.dK kvs)) = q (.int kvs.length) h := rfl
def spLenD : Spec := fun args h q _ => match args with
  | [.ref p] => atK h p (kLenD q h)
  | _ => False
@[simp ↓] theorem spLenD_s {p : Addr} {h : MH} {q : QV} {e : QX} : spLenD [.ref p] h q e = atK h p (kLenD q h) := rfl
theorem cm_lenD {X : Cx} : CallM X (.builtin "len") spLenD := callM_r (fun args vs h H q e Q hh va φ k => by
  unfold spLenD at φ
  split at φ
  · rename_i p
    unfold atK kLenD at φ
    split at φ
    · rename_i kvs ep
      obtain ⟨v, e1, rv⟩ := va.one
      subst e1
      simp at rv
      subst rv
      obtain ⟨gs, g1, gr⟩ := hh.ob p _ ep
      have hl : gs.length = kvs.length := by
        have := congrArg List.length gr.1
        simpa using this.symm
      exact ⟨p, gs, rfl, g1, k _ _ h H (TK.refl H) hh (by rw [hl]; simp) φ⟩
    · exact φ.elim
  · exact φ.elim) call_lenD
end MM
end
section
namespace MM
open PySem PySem.Spec PyProof.Rows L2
def rrB (K : PySem.W.Frag) (C : Addr) (nm : String) : Bool := match PySem.W.findIn K (.ref C) (dunderR nm) with
  | some none => true
  | some (some (.ref _)) => true
  | _ => false
def mroB (K : PySem.W.Frag) (C : Addr) : Bool := match PySem.W.clsIn K C with
  | some cd => (match cd.mro with
    | [.ref D, .type n] => decide (D = C) && decide (n = "object")
    | _ => false)
  | none => false
def opcB (C : Str) (K : PySem.W.Frag) : Bool := PySem.W.selfFirst K (He.ga K C) && (mroB K (He.ga K C) && ((["add", "mul"] : List String).all (fun nm => He.eqO (PySem.W.findIn K (.ref (He.ga K C)) (dunderI nm)) (some none) && rrB K (He.ga K C) nm) &&
  (decide (PySem.W.subIn K (.type "int") (.ref (He.ga K C)) = some false) && decide (PySem.W.subIn K (.ref (He.ga K C)) (.type "int") = some false))))
theorem opc_ok {K : PySem.W.Frag} {C : Str} (c : opcB C K = true) : OpC K (He.ga K C) := by
  obtain ⟨c1, c⟩ := He.ba c
  obtain ⟨c2, c⟩ := He.ba c
  obtain ⟨c3, c⟩ := He.ba c
  obtain ⟨c4, c5⟩ := He.ba c
  refine ⟨c1, ?_, fun nm hn => ?_, fun nm hn => ?_, of_decide_eq_true c4, of_decide_eq_true c5⟩
  · unfold mroB at c2
    split at c2
    · rename_i cd e
      split at c2
      · rename_i D n em
        obtain ⟨a, b⟩ := He.ba c2
        exact ⟨cd, e, by rw [em, of_decide_eq_true a, of_decide_eq_true b]⟩
      · cases c2
    · cases c2
  · exact He.eqO_ok (He.ba (List.all_eq_true.mp c3 nm hn)).1
  · have z := (He.ba (List.all_eq_true.mp c3 nm hn)).2
    unfold rrB at z
    split at z
    · rename_i e; exact ⟨_, e, .inl rfl⟩
    · rename_i g e; exact ⟨_, e, .inr ⟨g, rfl⟩⟩
    · cases z
section
variable {P : Program} {w : World} {K : PySem.W.Frag} {mg : Str → Option Value} {base : Heap} {k : Nat} {C : Addr} {Φ : Spec}
theorem Me.opAdd (M : Me P w K mg base k C "__add__" Φ) (o : OpC K C) : OpO P w K mg base k C "add" Φ := by
  obtain ⟨_, f, m, F⟩ := M
  exact ⟨o, f, m.at_, m.fn, F⟩
theorem Me.opMul (M : Me P w K mg base k C "__mul__" Φ) (o : OpC K C) : OpO P w K mg base k C "mul" Φ := by
  obtain ⟨_, f, m, F⟩ := M
  exact ⟨o, f, m.at_, m.fn, F⟩
theorem Me.opRmul {j : Nat} {Ψ : Spec} (M : Me P w K mg base k C "__rmul__" Φ) (M2 : Me P w K mg base j C "__mul__" Ψ) (o : OpC K C) : RmO P w K mg base k C Φ := by
  obtain ⟨_, f, m, F⟩ := M
  obtain ⟨_, f2, m2, _⟩ := M2
  exact ⟨o, ⟨f2, m2.at_⟩, f, m.at_, m.fn, F⟩
end
end MM
end
section
namespace MM
open PySem PySem.Spec PyProof.Rows L2
/-! ### + and * of any lists, * of any tuples -/
/-- tuples and lists as objects, with any slots -/
abbrev tupO (dd : Option Addr) (items : Array Value) (n : Nat) (sl : Array (Option Value)) : Obj := { cls := .type "tuple", dict := dd, data := .seq items n, slots := sl }
abbrev lstO (items : Array Value) (n : Nat) (sl : Array (Option Value)) : Obj := { cls := .type "list", dict := none, data := .seq items n, slots := sl }
theorem dec_no {c : Bool} (h : c = false) : decide (c = true) = false := by subst h; rfl
theorem dec_yes {c : Bool} (h : c = true) : decide (c = true) = true := by subst h; rfl
theorem list_addW (l b : Addr) (xs ys : Array Value) (n m : Nat) (sl sm : Array (Option Value)) (fits : xs.size + ys.size ≤ sizeLine) :
    Meets (Builtin.«list.__add__» ⟨[.ref l, .ref b], []⟩) (fun _ R s => s.heap.get? l = some (lstO xs n sl) ∧ s.heap.get? b = some (lstO ys m sm) ∧ R (.ok (.ret (.ref s.heap.objs.size))) { s with heap := s.heap.push { cls := .type "list", data := .seq (xs ++ ys) }, toks := s.toks }) :=
  .of_wp fun prog w A R ⟨hp, g, d, tk, os⟩ ⟨hl, hb, z⟩ => by
    have idx := AutoSeq1.idx_int; have tt := AutoSeq1.sub_tuple_tuple; have ll := AutoSeq1.sub_list_list; have tl := AutoSeq1.sub_tuple_list; have lt := AutoSeq1.sub_list_tuple
    simp only [lstO] at hl hb
    wp_walk using (wpAny_loadPart' hl), (wpAny_loadPart' hb)
    exact ⟨_, rfl, z⟩
/-- tuple * k is the tuple itself -/
theorem tuple_mul_same (l : Addr) (xs : Array Value) (n : Nat) (dd : Option Addr) (sl : Array (Option Value)) (k : Int) (u : Tok) (c0 : (decide (k < -(2 ^ 63)) || decide (k ≥ 2 ^ 63)) = false) (c1 : (xs.isEmpty || k == 1) = true) :
    Meets (Builtin.«tuple.__mul__» ⟨[.ref l, .int k u], []⟩) (fun _ R s => s.heap.get? l = some (tupO dd xs n sl) ∧ R (.ok (.ret (.ref l))) s) :=
  .of_wp fun prog w A R ⟨hp, g, d, tk, os⟩ ⟨hl, z⟩ => by
    have idx := AutoSeq1.idx_int
    simp only [tupO] at hl
    wp_walk using (wpAny_loadPart' hl)
    repeat (first | (refine wpAny_ite_false (dec_no c0) ?_; wp_walk using (wpAny_loadPart' hl)) | (refine wpAny_ite_true (dec_yes c1) ?_; wp_walk using (wpAny_loadPart' hl)))
    exact ⟨_, rfl, z⟩
/-- it is a new empty one -/
theorem tuple_mul_none (l : Addr) (xs : Array Value) (n : Nat) (dd : Option Addr) (sl : Array (Option Value)) (k : Int) (u : Tok) (c0 : (decide (k < -(2 ^ 63)) || decide (k ≥ 2 ^ 63)) = false) (c1 : (xs.isEmpty || k == 1) = false) (c2 : (decide (k ≤ 0) || xs.isEmpty) = true) :
    Meets (Builtin.«tuple.__mul__» ⟨[.ref l, .int k u], []⟩) (fun _ R s => s.heap.get? l = some (tupO dd xs n sl) ∧ R (.ok (.ret (.ref s.heap.objs.size))) { s with heap := s.heap.push { cls := .type "tuple", data := .seq #[] }, toks := s.toks }) :=
  .of_wp fun prog w A R ⟨hp, g, d, tk, os⟩ ⟨hl, z⟩ => by
    have idx := AutoSeq1.idx_int
    have none : ¬ sizeLine < (#[] : Array Value).size := Nat.not_lt_zero _
    simp only [tupO] at hl
    wp_walk using (wpAny_loadPart' hl)
    repeat (first
      | (refine wpAny_ite_false (dec_no c0) ?_; wp_walk using (wpAny_loadPart' hl)) | (refine wpAny_ite_false (dec_no c1) ?_; wp_walk using (wpAny_loadPart' hl))
      | (refine wpAny_ite_true (dec_yes c2) ?_; wp_walk using (wpAny_loadPart' hl)) | (refine wpAny_ite_false (decide_eq_false none) ?_; wp_walk using (wpAny_loadPart' hl)))
    exact ⟨_, rfl, z⟩
/-- list * k -/
abbrev timesL (xs : Array Value) (k : Int) : Array Value := List.foldl (fun x1 x2 => x1 ++ x2) #[] (List.replicate (if xs.isEmpty = true then 0 else k.toNat) xs)
theorem list_mulW (l : Addr) (xs : Array Value) (n : Nat) (sl : Array (Option Value)) (k : Int) (u : Tok) (hc0 : ¬(!Builtin.List.listFitsIndex k) = true) (hc1 : ¬xs.size * k.toNat > (2 ^ 63 - 1) / 8) (hc2 : ¬Builtin.List.listTooLong (xs.size * k.toNat) = true) :
    Meets (Builtin.«list.__mul__» ⟨[.ref l, .int k u], []⟩) (fun _ R s => s.heap.get? l = some (lstO xs n sl) ∧ R (.ok (.ret (.ref s.heap.objs.size))) { s with heap := s.heap.push { cls := .type "list", data := .seq (timesL xs k) }, toks := s.toks }) :=
  .of_wp fun prog w A R ⟨hp, g, d, tk, os⟩ ⟨hl, z⟩ => by
    have idx := AutoSeq1.idx_int
    have few := decide_eq_false (Nat.not_lt.mpr (AutoListH.joined_fits hc2))
    simp only [lstO] at hl
    wp_walk using (wpAny_loadPart' hl)
    refine wpAny_ite_false few ?_
    wp_walk using (wpAny_loadPart' hl)
    exact ⟨_, rfl, z⟩
theorem int_rmul_listW (k : Int) (t : Tok) (l : Addr) (xs : Array Value) (n : Nat) (sl : Array (Option Value)) : Meets (Builtin.«int.__rmul__» ⟨[.int k t, .ref l], []⟩) (fun _ R s => s.heap.get? l = some (lstO xs n sl) ∧ R (.ok (.ret Value.notImplemented)) s) :=
  .of_wp fun prog w A R ⟨hp, g, d, tk, os⟩ ⟨hl, z⟩ => by
    simp only [lstO] at hl
    wp_walk using (wpAny_loadPart' hl)
    exact ⟨_, rfl, z⟩
/-- a list -/
def lisM (h : MH) : MV → Option (List MV)
  | .lis xs => some xs
  | .ref p => match h.at_ p with
    | some (.lst xs) => some xs
    | _ => none
  | _ => none
def lisK (h : MH) (x : MV) (k : List MV → Prop) : Prop := match lisM h x with | some xs => k xs | none => False
theorem lis_ok {K : PySem.W.Frag} {H : Hp} {h : MH} {x : MV} {v : V} {xs : List MV} (hr : HR K h H) (r : VR K H x v) (e : lisM h x = some xs) : ∃ p vs, v = .ref p ∧ SqL K H p vs ∧ VRs K H xs vs := by
  cases x with
  | lis ys =>
    cases e
    obtain ⟨p, vs, e1, q, rs⟩ := VR_lis.mp r
    exact ⟨p, vs, e1, q.sq, rs⟩
  | ref p =>
    simp only [lisM] at e
    split at e
    · rename_i ys ey
      cases e
      obtain ⟨vs, e1, rs⟩ := hr.ob p _ ey
      exact ⟨p, vs, by simpa using r, SqL.of e1, rs⟩
    · cases e
  | _ => cases e
def rCatS (K : PySem.W.Frag) : R2 := fun x y H Q => ∃ l b xs zs, x = .ref l ∧ y = .ref b ∧ SqL K H l xs ∧ SqL K H b zs ∧ xs.length + zs.length ≤ sizeLine ∧ ∀ p, H p = none → Q (.ref p) (upd H p (.lst (xs ++ zs)))
def rRepS (K : PySem.W.Frag) : R2 := fun x y H Q => ∃ l k xs, x = .ref l ∧ y = .int k ∧ SqL K H l xs ∧ -(2 ^ 63) ≤ k ∧ k < 2 ^ 63 ∧ xs.length * k.toNat ≤ sizeLine ∧ ∀ p, H p = none → Q (.ref p) (upd H p (.lst (List.replicate k.toNat xs).flatten))
/-- tuple * int -/
def rRepU (K : PySem.W.Frag) : R2 := fun x y H Q => ∃ l k xs, x = .ref l ∧ y = .int k ∧ SqT K H l xs ∧ -1000 ≤ k ∧ k ≤ 1000 ∧ xs.length ≤ 1000 ∧ (xs = [] ∨ k = 1 → Q (.ref l) H) ∧ (xs ≠ [] → k ≠ 1 → ∀ p, H p = none → Q (.ref p) (upd H p (.tup (List.replicate k.toNat xs).flatten)))
section
variable {X : Cx}
/-- the list at l as an object -/
theorem Inv.lisAt {pins : List (Addr × Obj)} {σ : L2.St} {H : Hp} {s : Shared} {l : Addr} {xs : List V} (I : Inv X pins σ H s) (q : SqL X.K H l xs) : ∃ its n sl, Vals xs its ∧ s.heap.get? l = some (lstO its.toArray n sl) := by
  obtain ⟨its, rv, ⟨⟨c, dd, dt, sl⟩, n, here, ec, ed, et⟩, _⟩ := I.list q
  cases (show c = _ from ec); cases (show dd = none from ed); cases (show dt = _ from et)
  exact ⟨its, n, sl, rv, here⟩
theorem Inv.tupAt {pins : List (Addr × Obj)} {σ : L2.St} {H : Hp} {s : Shared} {l : Addr} {xs : List V} (I : Inv X pins σ H s) (q : SqT X.K H l xs) : ∃ its dd n sl, Vals xs its ∧ s.heap.get? l = some (tupO dd its.toArray n sl) := by
  obtain ⟨its, rv, ⟨⟨c, dd, dt, sl⟩, here, ec, n, et⟩, _⟩ := I.tuple q
  cases (show c = _ from ec); cases (show dt = _ from et)
  exact ⟨its, dd, n, sl, rv, here⟩
theorem op_catS : OpR X (binaryOp .Add) (rCatS X.K) := by
  rintro pins s σ H _ _ v u Q I rx ry ⟨l, b, xs, zs, rfl, rfl, ql, qb, fits, q⟩
  cases rx; cases ry
  obtain ⟨its, n, sl, r, hl⟩ := Inv.lisAt I ql
  obtain ⟨jts, m, sm, r2, hb⟩ := Inv.lisAt I qb
  have len : its.toArray.size + jts.toArray.size ≤ sizeLine := by simpa [← r.length, ← r2.length] using fits
  refine PySem.concat_meets ⟨_, hl, rfl⟩ ⟨_, hb, rfl⟩ PySem.noFill_list_add PySem.seq_list_add F.slot_list_add F.entry_list_add (F.args_list_add_2 _ _) (list_addW l b its.toArray jts.toArray n m sl sm len) ⟨hl, hb, ?_⟩
  rw [List.append_toArray]
  exact ⟨.ref _, _, I.lnew (t' := s.toks) (r.append r2) (by simpa using fits), rfl, q _ I.fresh⟩
theorem rep_fits {n : Nat} {k : Int} (h1 : -(2 ^ 63) ≤ k) (h2 : k < 2 ^ 63) (hz : n * k.toNat ≤ sizeLine) : ¬(!Builtin.List.listFitsIndex k) = true ∧ ¬n * k.toNat > (2 ^ 63 - 1) / 8 ∧ ¬Builtin.List.listTooLong (n * k.toNat) = true :=
  ⟨(fitsIndex_both h1 h2).symm ▸ Bool.false_ne_true, Nat.not_lt.mpr (Nat.le_trans hz (by decide)), (notLongL hz).symm ▸ Bool.false_ne_true⟩
theorem timesL_eq (its : List Value) (k : Int) : timesL its.toArray k = (List.replicate k.toNat its).flatten.toArray := by
  unfold timesL
  rw [size_rep]
  split
  next z => simp [List.isEmpty_iff.mp (by simpa using z)]
  next => rfl
section
variable {prog : Program} {w : World} {A : Around} {E : Value → Shared → Prop} {s : Shared} {Q : Value → Shared → Prop} {l : Addr} {items : Array Value} {n : Nat} {dd : Option Addr} {sl : Array (Option Value)} {k : Int} {t : Tok}
theorem times_list (hl : s.heap.get? l = some (lstO items n sl)) (h : wpAny (model prog w) A (call (.builtin "list.__mul__") [.ref l, .int k t]) Q E s) : wpAny (model prog w) A (binaryOp .Mult (.ref l) (.int k t)) Q E s :=
  wpAny_binaryOp_repeat_ref (T := "list") (U := "int") (by decide) ⟨_, hl, rfl⟩ (fun _ => typeIs_int _ k t) noFill_list_mul F.fills_int_mul F.slot_int_rmul repeat_list F.slot_int_index.lookup
    (call_meets F.slot_int_rmul (typeIs_int s k t) F.entry_int_rmul (F.args_int_rmul_2 _ _) (int_rmul_listW k t l items n sl) ⟨hl, rfl, ⟨_, hl, rfl⟩, h⟩)
theorem times_tup (hl : s.heap.get? l = some (tupO dd items n sl)) (h : wpAny (model prog w) A (call (.builtin "tuple.__mul__") [.ref l, .int k t]) Q E s) : wpAny (model prog w) A (binaryOp .Mult (.ref l) (.int k t)) Q E s :=
  wpAny_binaryOp_repeat_ref (T := "tuple") (U := "int") (by decide) ⟨_, hl, rfl⟩ (fun _ => typeIs_int _ k t) noFill_tuple_mul F.fills_int_mul F.slot_int_rmul repeat_tuple F.slot_int_index.lookup
    (call_meets F.slot_int_rmul (typeIs_int s k t) F.entry_int_rmul (F.args_int_rmul_2 _ _) (int_rmul_tuple k t l items n dd sl) ⟨hl, rfl, ⟨_, hl, rfl⟩, h⟩)
end
theorem op_repS : OpR X (binaryOp .Mult) (rRepS X.K) := by
  rintro pins s σ H _ _ v u Q I rx ry ⟨l, k, xs, rfl, rfl, ql, h1, h2, fits, q⟩
  cases rx
  obtain ⟨t, rfl⟩ := ry
  obtain ⟨its, n, sl, r, hl⟩ := Inv.lisAt I ql
  have len : its.toArray.size * k.toNat ≤ sizeLine := by simpa [← r.length] using fits
  obtain ⟨c0, c1, c2⟩ := rep_fits h1 h2 len
  refine times_list hl (call_meets F.slot_list_mul ⟨_, hl, rfl⟩ F.entry_list_mul (F.args_list_mul_2 _ _) (list_mulW l its.toArray n sl k t c0 c1 c2) ⟨hl, ?_⟩)
  rw [timesL_eq]
  exact ⟨.ref _, _, I.lnew (t' := s.toks) (r.rep k.toNat) (by simpa [lm_len_rep_flat, Nat.mul_comm] using fits), rfl, q _ I.fresh⟩
theorem op_repU : OpR X (binaryOp .Mult) (rRepU X.K) := by
  rintro pins s σ H x y v u Q I rx ry ⟨l, k, xs, rfl, rfl, sq, h1, h2, few, same, other⟩
  by_cases many : xs ≠ [] ∧ 2 ≤ k
  · exact op_repT pins s σ H _ _ v u Q I rx ry ⟨l, k, xs, rfl, rfl, sq, many.1, many.2, h2, few, other many.1 (by omega)⟩
  cases rx
  obtain ⟨t, rfl⟩ := ry
  obtain ⟨its, dd, n, sl, r, hl⟩ := Inv.tupAt I sq
  have c0 : (decide (k < -(2 ^ 63)) || decide (k ≥ 2 ^ 63)) = false := by simp; omega
  have empty : its.toArray.isEmpty = decide (xs = []) := by
    cases r with
    | nil => rfl
    | cons _ _ => rfl
  by_cases z : xs = [] ∨ k = 1
  · have c1 : (its.toArray.isEmpty || k == 1) = true := by simpa [empty] using z
    exact times_tup hl (call_meets F.slot_tuple_mul ⟨_, hl, rfl⟩ F.entry_tuple_mul (F.args_tuple_mul_2 _ _) (tuple_mul_same l its.toArray n dd sl k t c0 c1) ⟨hl, .ref l, H, I, rfl, same z⟩)
  · have ⟨ne, k1⟩ := not_or.mp z
    have k0 : k ≤ 0 := by have : ¬ 2 ≤ k := fun m => many ⟨ne, m⟩; omega
    have c1 : (its.toArray.isEmpty || k == 1) = false := by simp [empty, ne, k1]
    have c2 : (decide (k ≤ 0) || its.toArray.isEmpty) = true := by simp [k0]
    refine times_tup hl (call_meets F.slot_tuple_mul ⟨_, hl, rfl⟩ F.entry_tuple_mul (F.args_tuple_mul_2 _ _) (tuple_mul_none l its.toArray n dd sl k t c0 c1 c2) ⟨hl, ?_⟩)
    have last := other ne k1 s.heap.objs.size I.fresh
    rw [show k.toNat = 0 by omega] at last
    exact ⟨.ref _, _, I.laid (t' := s.toks) (o := .tup []) (fun b ob q => Heap.get?_push_of_some _ q) (Nat.le_refl _) ⟨Nat.zero_le _, [], .nil, IsTup.new _ _⟩, rfl, last⟩
/-! in the mirror -/
def kAddB (xs : List MV) (h : MH) (q : QV) : List MV → Prop := fun ys => xs.length + ys.length ≤ sizeLine ∧ newL h (.lst (xs ++ ys)) q
def kAddA (y : MV) (h : MH) (q : QV) : List MV → Prop := fun xs => lisK h y (kAddB xs h q)
def bAddL : B2 := fun x y h q _ => lisK h x (kAddA y h q)
def bAdd2 : B2 := fun x y h q e => match x, y with
  | .int i, .int j => q (.int (i + j)) h
  | .str a, .str b => a.length + b.length ≤ sizeLine ∧ q (.str (a ++ b)) h
  | .tup a, .tup b => a.length + b.length ≤ sizeLine ∧ q (.tup (a ++ b)) h
  | x, y => bAddL x y h q e
theorem lisK_get {h : MH} {x : MV} {k : List MV → Prop} (z : lisK h x k) : ∃ xs, lisM h x = some xs ∧ k xs := by
  unfold lisK at z
  split at z
  · rename_i xs e; exact ⟨xs, e, z⟩
  · exact z.elim
theorem op_add2 : OpR X (binaryOp .Add) (fun x y H Q => rAddM X.K x y H Q ∨ rCatS X.K x y H Q) := op_addM.or op_catS
theorem ok_add2 : B2Ok X (fun x y H Q => rAddM X.K x y H Q ∨ rCatS X.K x y H Q) bAdd2 := fun x y v u h H q e Q hh rx ry b k => by
  unfold bAdd2 at b
  split at b
  · exact .inl (ok_add _ _ v u h H q e Q hh rx ry b k)
  · exact .inl (ok_add _ _ v u h H q e Q hh rx ry b k)
  · exact .inl (ok_add _ _ v u h H q e Q hh rx ry b k)
  · refine .inr ?_
    obtain ⟨xs, e1, b⟩ := lisK_get b
    obtain ⟨ys, e2, b⟩ := lisK_get b
    obtain ⟨l, w⟩ := b
    obtain ⟨p, vs, g1, sq, r1⟩ := lis_ok hh rx e1
    obtain ⟨p2, us, g2, sq2, r2⟩ := lis_ok hh ry e2
    subst g1 g2
    refine ⟨p, p2, vs, us, rfl, rfl, sq, sq2, by rw [← r1.length, ← r2.length]; exact l, fun p3 n => ?_⟩
    have t := TK.new (o := .lst (vs ++ us)) n
    exact k _ _ (h.put p3 (.lst (xs ++ ys))) _ t (hh.new n ⟨_, upd_same, (r1.append r2).tk t _⟩) (by simp) (w p3 (hh.free n))
def kMulL (k : Int) (h : MH) (q : QV) : List MV → Prop := fun xs => (-(2 ^ 63) ≤ k ∧ k < 2 ^ 63) ∧ xs.length * k.toNat ≤ sizeLine ∧ newL h (.lst (List.replicate k.toNat xs).flatten) q
def bMul2 : B2 := fun x y h q _ => match x, y with
  | .int i, .int j => CMulX i j ∧ q (.int (i * j)) h
  | .tup xs, .int k => (-1000 ≤ k ∧ k ≤ 1000) ∧ xs.length ≤ 1000 ∧ q (.tup (List.replicate k.toNat xs).flatten) h
  | x, .int k => lisK h x (kMulL k h q)
  | _, _ => False
theorem op_mul2 : OpR X (binaryOp .Mult) (fun x y H Q => rI CMulX (fun i j => .int (i * j)) x y H Q ∨ rRepU X.K x y H Q ∨ rRepS X.K x y H Q) := op_mulX.or (op_repU.or op_repS)
theorem ok_mul2 : B2Ok X (fun x y H Q => rI CMulX (fun i j => .int (i * j)) x y H Q ∨ rRepU X.K x y H Q ∨ rRepS X.K x y H Q) bMul2 := fun x y v u h H q e Q hh rx ry b k => by
  unfold bMul2 at b
  split at b
  · simp at rx ry; subst rx ry
    exact .inl ⟨_, _, rfl, rfl, b.1, k _ _ h H (TK.refl H) hh (by simp) b.2⟩
  · rename_i xs kk
    obtain ⟨⟨b1, b2⟩, b3, b4⟩ := b
    obtain ⟨p, vs, e1, q1, r1⟩ := VR_tup.mp rx
    simp at ry
    subst e1 ry
    refine .inr (.inl ⟨p, kk, vs, rfl, rfl, q1, b1, b2, by rw [← r1.length]; exact b3, fun hs => ?_, fun hn h1 p3 n => ?_⟩)
    · refine k _ _ h H (TK.refl H) hh ?_ b4
      have : (List.replicate kk.toNat xs).flatten = xs := by
        rcases hs with e | e
        · subst e
          have : xs = [] := List.length_eq_zero_iff.mp (by rw [r1.length]; rfl)
          subst this
          simp
        · subst e
          simp
      rw [this]
      exact rx
    · have t := TK.new (o := .tup (List.replicate kk.toNat vs).flatten) n
      exact k _ _ h _ t (hh.new' n) (VR_tup.mpr ⟨p3, _, rfl, SqT.of upd_same, (r1.rep kk.toNat).tk t _⟩) b4
  · rename_i kk _ _
    obtain ⟨xs, e1, ⟨b1, b2⟩, b3, w⟩ := lisK_get b
    obtain ⟨p, vs, g1, sq, r1⟩ := lis_ok hh rx e1
    simp at ry
    subst g1 ry
    refine .inr (.inr ⟨p, kk, vs, rfl, rfl, sq, b1, b2, by rw [← r1.length]; exact b3, fun p3 n => ?_⟩)
    have t := TK.new (o := .lst (List.replicate kk.toNat vs).flatten) n
    exact k _ _ (h.put p3 (.lst (List.replicate kk.toNat xs).flatten)) _ t (hh.new n ⟨_, upd_same, (r1.rep kk.toNat).tk t _⟩) (by simp) (w p3 (hh.free n))
  · exact b.elim
end
section
variable {h : MH} {q : QV} {e : QX}
@[simp ↓] theorem lisK_lis {k : List MV → Prop} {xs : List MV} : lisK h (.lis xs) k = k xs := rfl
def lisO (k : List MV → Prop) : Option MO → Prop := fun o => match o with | some (.lst xs) => k xs | _ => False
@[simp ↓] theorem lisO_s {k : List MV → Prop} {xs : List MV} : lisO k (some (.lst xs)) = k xs := rfl
@[simp ↓] theorem lisK_ref {k : List MV → Prop} {p : Addr} : lisK h (.ref p) k = atK h p (lisO k) := by
  unfold lisK atK
  simp only [lisM]
  cases h.at_ p with
  | none => rfl
  | some o => cases o <;> rfl
@[simp ↓] theorem kAddB_s {xs ys : List MV} : kAddB xs h q ys = (xs.length + ys.length ≤ sizeLine ∧ newL h (.lst (xs ++ ys)) q) := rfl
@[simp ↓] theorem kAddA_s {y : MV} {xs : List MV} : kAddA y h q xs = lisK h y (kAddB xs h q) := rfl
@[simp ↓] theorem kMulL_s {k : Int} {xs : List MV} : kMulL k h q xs = ((-(2 ^ 63) ≤ k ∧ k < 2 ^ 63) ∧ xs.length * k.toNat ≤ sizeLine ∧ newL h (.lst (List.replicate k.toNat xs).flatten) q) := rfl
@[simp ↓] theorem bAdd2_i {i j : Int} : bAdd2 (.int i) (.int j) h q e = q (.int (i + j)) h := rfl
@[simp ↓] theorem bAdd2_s {i j : Str} : bAdd2 (.str i) (.str j) h q e = (i.length + j.length ≤ sizeLine ∧ q (.str (i ++ j)) h) := rfl
@[simp ↓] theorem bAdd2_t {i j : List MV} : bAdd2 (.tup i) (.tup j) h q e = (i.length + j.length ≤ sizeLine ∧ q (.tup (i ++ j)) h) := rfl
@[simp ↓] theorem bAdd2_l {xs : List MV} {y : MV} : bAdd2 (.lis xs) y h q e = lisK h y (kAddB xs h q) := rfl
@[simp ↓] theorem bAdd2_r {p : Addr} {y : MV} : bAdd2 (.ref p) y h q e = lisK h (.ref p) (kAddA y h q) := rfl
@[simp ↓] theorem bMul2_i {i j : Int} : bMul2 (.int i) (.int j) h q e = (CMulX i j ∧ q (.int (i * j)) h) := rfl
@[simp ↓] theorem bMul2_t {xs : List MV} {k : Int} : bMul2 (.tup xs) (.int k) h q e = ((-1000 ≤ k ∧ k ≤ 1000) ∧ xs.length ≤ 1000 ∧ q (.tup (List.replicate k.toNat xs).flatten) h) := rfl
@[simp ↓] theorem bMul2_l {xs : List MV} {k : Int} : bMul2 (.lis xs) (.int k) h q e = ((-(2 ^ 63) ≤ k ∧ k < 2 ^ 63) ∧ xs.length * k.toNat ≤ sizeLine ∧ newL h (.lst (List.replicate k.toNat xs).flatten) q) := rfl
end
end MM
end
section
namespace MM
open PySem PySem.Spec PyProof.Rows L2
/-! ### all, any of frozen lists -/
def isBlM : MV → Bool
  | .bl _ => true
  | _ => false
def truM : MV → Bool
  | .bl b => b
  | _ => false
@[simp] theorem isBlM_bl {b : Bool} : isBlM (.bl b) = true := rfl
@[simp] theorem truM_bl {b : Bool} : truM (.bl b) = b := rfl
theorem bls_of : ∀ {xs : List MV}, (∀ x ∈ xs, isBlM x = true) → xs = (xs.map truM).map MV.bl
  | [], _ => rfl
  | x :: r, h => by
    have h1 := h x (by simp)
    have h2 := bls_of (xs := r) fun y m => h y (by simp [m])
    cases x with
    | bl b => rw [List.map_cons, List.map_cons, ← h2]; rfl
    | _ => cases h1
def spAllF : Spec := fun args h q _ => match args with | [.lis xs] => (∀ x ∈ xs, isBlM x = true) ∧ q (.bl (xs.all truM)) h | _ => False
def spAnyF : Spec := fun args h q _ => match args with | [.lis xs] => (∀ x ∈ xs, isBlM x = true) ∧ q (.bl (xs.any truM)) h | _ => False
@[simp ↓] theorem spAllF_s {xs : List MV} {h : MH} {q : QV} {e : QX} : spAllF [.lis xs] h q e = ((∀ x ∈ xs, isBlM x = true) ∧ q (.bl (xs.all truM)) h) := rfl
@[simp ↓] theorem spAnyF_s {xs : List MV} {h : MH} {q : QV} {e : QX} : spAnyF [.lis xs] h q e = ((∀ x ∈ xs, isBlM x = true) ∧ q (.bl (xs.any truM)) h) := rfl
theorem cm_allF {X : Cx} (hc : X.calm = true) : CallM X (.builtin "all") spAllF := callM_r (fun args vs h H q e Q hh va φ k => by
  unfold spAllF at φ
  split at φ
  · rename_i xs
    obtain ⟨v, e1, rv⟩ := va.one
    subst e1
    obtain ⟨p, us, e2, fz, rs⟩ := VR_lis.mp rv
    subst e2
    have e3 := bls_of φ.1
    rw [e3] at rs
    have e4 : (xs.map truM).all id = xs.all truM := by rw [List.all_map]; rfl
    exact ⟨p, xs.map truM, rfl, by rw [← bls_ok rs]; exact fz.sq, by rw [e4]; exact k (.bl (xs.all truM)) _ h H (TK.refl H) hh (by simp) φ.2⟩
  · exact φ.elim) (cr_all hc)
theorem cm_anyF {X : Cx} (hc : X.calm = true) : CallM X (.builtin "any") spAnyF := callM_r (fun args vs h H q e Q hh va φ k => by
  unfold spAnyF at φ
  split at φ
  · rename_i xs
    obtain ⟨v, e1, rv⟩ := va.one
    subst e1
    obtain ⟨p, us, e2, fz, rs⟩ := VR_lis.mp rv
    subst e2
    have e3 := bls_of φ.1
    rw [e3] at rs
    have e4 : (xs.map truM).any id = xs.any truM := by rw [List.any_map]; rfl
    exact ⟨p, xs.map truM, rfl, by rw [← bls_ok rs]; exact fz.sq, by rw [e4]; exact k (.bl (xs.any truM)) _ h H (TK.refl H) hh (by simp) φ.2⟩
  · exact φ.elim) (cr_any hc)
/-! ### words that were lacking -/
section
variable {h : MH} {q : QV} {e : QX}
@[simp ↓] theorem kSrt1_l {xs : List MV} : kSrt1 q [.lis xs] h = kSrtSet h q xs := rfl
@[simp] theorem MH.dealt_src {d g : Addr} {c : Nat} : (h.dealt d g).src (.ref d) c = (c ≤ 2 ^ 64) := propext ⟨fun z => z.2, fun z => ⟨⟨_, rfl, rfl, rfl⟩, z⟩⟩
end
end MM
end
section
namespace MM
open PySem PySem.Spec PyProof.Rows L2
/-! ### enumerate(tuple) -/
set_option maxHeartbeats 1000000 in
theorem meets_enumT {v : Value} {o : Obj} {H : Heap → Prop} (B : Begins v o H) :
    Meets (Builtin.«enumerate.__new__» ⟨[.type "enumerate", v], []⟩) (fun _ R s => H s.heap ∧
      R (.ok (.ret (.ref (s.heap.push o).objs.size))) { s with heap := (s.heap.push o).push { cls := .type "enumerate", data := .fields #[.none, .bool false, .ref s.heap.objs.size, rawInt 0, .none, .none] } }) :=
  .of_wp fun prog w A R ⟨hp, g, d, tk, os⟩ ⟨here, z⟩ => by
    have start : ∀ {B : Around} {E Q : Value → Shared → Prop}, Q (.ref hp.objs.size) ⟨hp.push o, g, d, tk, os⟩ → wpAny (model prog w) B (pyIter v) Q E ⟨hp, g, d, tk, os⟩ := fun q => B.iter prog w _ _ _ _ here q
    have known := sub_enumerate
    wp_walk using start
    refine wpAny_stack_any (fun st => wpAny_pure ?_)
    split
    next c _ _ _ _ _ => cases (c == .type "enumerate") <;> (wp_walk using start; exact ⟨_, rfl, z⟩)
    next => wp_walk using start; exact ⟨_, rfl, z⟩
theorem call_enumT {prog : Program} {w : World} {A : Around} {E : Value → Shared → Prop} {s : Shared} {v : Value} {o : Obj} {H : Heap → Prop} {Q : Value → Shared → Prop} (B : Begins v o H) (h1 : H s.heap)
    (h : ∀ h', IsEnum h' (s.heap.objs.size + 1) s.heap.objs.size 0 .none → h'.get? s.heap.objs.size = some o → h'.objs.size = s.heap.objs.size + 2 → (∀ b u, s.heap.get? b = some u → h'.get? b = some u) → Q (.ref (s.heap.objs.size + 1)) { s with heap := h' }) :
    wpAny (model prog w) A (call (.type "enumerate") [v]) Q E s := by
  have more : (s.heap.push o).objs.size = s.heap.objs.size + 1 := Heap.size_push ..
  have at_ : ∀ u : Obj, u.isFreed = false → ((s.heap.push o).push u).get? (s.heap.objs.size + 1) = some u := fun u q => more ▸ Heap.get?_push_size (s.heap.push o) q
  refine callType_new F.called_enumerate (by decide) (F.typeCall_enumerate_1 _) (F.newCall_enumerate_1 _) (fun obj => F.args_object_init_2 obj _) F.entry_enumerate_new (meets_enumT B) ⟨h1, ?_⟩
  show _ ∧ _
  rw [more]
  exact ⟨⟨_, at_ _ rfl, rfl⟩, h _ (at_ _ rfl) (Heap.get?_push_of_some _ (Heap.get?_push_size _ B.free)) (by rw [Heap.size_push, more]) fun _ _ q => Heap.get?_push_of_some _ (Heap.get?_push_of_some _ q)⟩
/-- a tuple's items with their numbers, each in a new pair -/
def Iteu (K : PySem.W.Frag) (a : Addr) (vs : List V) : It :=
  ⟨fun i H => SqT K H a vs ∧ i < vs.length, fun i H v H' => ∃ T x, v = .ref T ∧ H T = none ∧ H' = upd H T (.tup [.int (i : Nat), x]) ∧ vs[i]? = some x, fun i H => SqT K H a vs ∧ i = vs.length⟩
theorem pair_mem {α : Type} {x a b : α} (h : x ∈ [a, b]) : x = a ∨ x = b := by simpa using h
theorem two_apart {h : Heap} {a b : Addr} {o u : Obj} (ha : h.get? a = some o) (hb : h.get? b = some u) (ne : o.cls ≠ u.cls) : a ≠ b := fun z => ne (by
  rw [z, hb] at ha
  cases ha
  rfl)
theorem turn_enumT {P : Program} {w : World} {K : PySem.W.Frag} {elts : List Expr} {kk : Nat} {tpos : Pos} {vs : List V} (a e it : Addr) :
    Turn P w K (.Tuple elts kk tpos) (Iteu K a vs) [e, it] e (fun i h => (∃ old, IsEnum h e it ((i : Nat) : Int) old) ∧ h.IsTupleIter it a i ∧ e ≠ it) where
  mem := List.mem_cons_self ..
  obj := fun i h ⟨⟨_, he⟩, ⟨o, ho, _, hd⟩, _⟩ b hb => by
    rcases pair_mem hb with rfl | rfl
    · exact ⟨_, he, nofun⟩
    · exact ⟨o, ho, hd ▸ nofun⟩
  keep := fun i h h' ⟨⟨old, he⟩, hi, ne⟩ k => ⟨⟨old, k e (by simp) _ he⟩, hi.at fun o => k it (by simp) o, ne⟩
  item := by
    rintro X rfl rfl rfl calm i pins s σ H E I free ⟨⟨old, he⟩, hi, ne⟩ ⟨sq, lt⟩
    obtain ⟨its, rv, tup, _⟩ := I.tuple sq
    obtain ⟨o, ho, kind, _⟩ := (show s.heap.IsTuple a its.toArray from tup)
    obtain ⟨o2, ho2, kind2, _⟩ := id hi
    -- what stands at e, at it, at a are three objects
    have ea : e ≠ a := two_apart he ho (by rw [kind]; exact fun z => absurd z (by decide : Value.type "enumerate" ≠ Value.type "tuple"))
    have ai : a ≠ it := two_apart ho ho2 (by rw [kind, kind2]; decide)
    let W := WalksT.enumerateD (A := X.A) (Draws.tuple (prog := X.prog) (w := X.w) (A := X.A.in1) (I.ok.hd calm) it a ai its.toArray) e ne (by simp [ne, ea]) (by simp)
    have below : ∀ b ∈ [e, it], b < s.heap.objs.size := fun b hb => by
      rcases pair_mem hb with rfl | rfl
      · exact Heap.lt_size he
      · exact Heap.lt_size ho2
    refine W.item i s _ _ (by simpa [← rv.length] using lt) ⟨⟨old, he⟩, hi, tup⟩ fun T vals h' tk ⟨t, u, hu, ev⟩ new isT mid k1 => ⟨_, rfl, W.go elts kk tpos i T _ _ _ mid fun h2 ⟨there, hi2, _⟩ k2 => ?_⟩
    subst ev
    have hx : vs[i]? = some vs[i] := List.getElem?_eq_getElem lt
    generalize vs[i] = x at hx
    obtain ⟨u', hu', rx⟩ := rv.get hx
    cases Option.some.inj (hu'.symm.trans (show its[i]? = some u by simpa using hu))
    have J : Inv X pins σ (upd H T (.tup [.int (i : Nat), x])) { s with heap := h2, toks := tk } :=
      I.turnedNew (ch := [e, it]) (fun b o nb q => k2 b o nb (k1 b o nb q)) free new ⟨by show 2 ≤ sizeLine; decide, [.int i t, u], .cons ⟨_, rfl⟩ (.cons rx .nil), isT.at fun o => k2 T o (W.apart i T h' mid)⟩
    exact ⟨.ref T, _, J, rfl, ⟨T, x, rfl, I.hok.fresh new, rfl, hx⟩, ⟨there, hi2, ne⟩, fun b hb => (upd_ne (Nat.ne_of_lt (Nat.lt_of_lt_of_le (below b hb) new))).trans (free b hb).1⟩
  done := by
    rintro X rfl rfl rfl calm i pins s σ H E I free ⟨⟨old, he⟩, hi, ne⟩ ⟨sq, rfl⟩
    obtain ⟨its, rv, tup, _⟩ := I.tuple sq
    obtain ⟨o, ho, kind, _⟩ := (show s.heap.IsTuple a its.toArray from tup)
    obtain ⟨o2, ho2, kind2, _⟩ := id hi
    have ai : a ≠ it := two_apart ho ho2 (by rw [kind, kind2]; decide)
    have f := free it (by simp)
    refine wpAny_pyNext_enum_endD (Draws.tuple (prog := X.prog) (w := X.w) (A := X.A.in1) (I.ok.hd calm) it a ai its.toArray) he ⟨?_, tup⟩ fun h' k => ⟨rfl, I.turned (t' := s.toks) (fun b o nb => k b o nb) f.1 f.2.1 f.2.2.2.1 f.2.2.2.2.1 f.2.2.2.2.2⟩
    rw [List.size_toArray, ← rv.length]
    exact hi
  self := fun A i s Q E ⟨⟨_, he⟩, _⟩ q => wpAny_pyIter_enum he q
theorem jm_enumT {K : PySem.W.Frag} {H : Hp} {p : Addr} {items : List MV} {vs : List V} {stay : MH → Prop} (sq : SqT K H p vs) (rs : VRs K H items vs) : JM K H (Iteu K p vs) ⟨enumM items, stay⟩ := by
  refine ⟨fun i H' h t r e hi => ⟨SqT.tk t sq, by rw [← rs.length, ← enumM_len]; exact hi⟩, fun i H' h x H2 t r e hi ⟨T, y, ex, new, eh, at_⟩ => ?_, fun H' h t r e => ⟨SqT.tk t sq, by show (enumM items).length = _; rw [enumM_len, rs.length]⟩⟩
  subst ex eh
  obtain ⟨m, e5, e6⟩ := (VRs.tk t _ rs).getV at_
  have t2 : TK H' (upd H' T (.tup [.int (i : Nat), y])) := TK.new new
  exact ⟨t2, r.new' new, _, enumM_at e5, VR_tup.mpr ⟨T, _, rfl, SqT.of upd_same, VRs_cons.mpr ⟨_, _, rfl, by simp, VRs_cons.mpr ⟨_, _, rfl, VR.tk t2 _ e6, by simp⟩⟩⟩⟩
/-- two new objects at the heap's end -/
theorem fpTwo {X : Cx} {pins : List (Addr × Obj)} {σ : L2.St} {H : Hp} {s : Shared} (I : Inv X pins σ H s) : ∀ b ∈ [s.heap.objs.size + 1, s.heap.objs.size], FpOk X pins H b := fun b hb => by
  have past : s.heap.objs.size ≤ b := by
    rcases pair_mem hb with rfl | rfl
    · exact Nat.le_succ _
    · exact Nat.le_refl _
  exact I.fpOk past (I.hok.fresh past)
/-- enumerate of a sequence -/
def kEnum2 (q : ItM → MH → Prop) : List MV → MH → Prop := fun xs h1 => match xs with
  | [.tup ys] => q ⟨enumM ys, fun _ => True⟩ h1
  | [v] => kEnum q [v] h1
  | _ => False
@[simp ↓] theorem kEnum2_t {q : ItM → MH → Prop} {xs : List MV} {h : MH} : kEnum2 q [.tup xs] h = q ⟨enumM xs, fun _ => True⟩ h := rfl
@[simp ↓] theorem kEnum2_r {q : ItM → MH → Prop} {p : Addr} {h : MH} : kEnum2 q [.ref p] h = seqK h (.ref p) fun items => q ⟨enumM items, fun h2 => seqM h2 (.ref p) = some items⟩ h := rfl
@[simp ↓] theorem kEnum2_l {q : ItM → MH → Prop} {xs : List MV} {h : MH} : kEnum2 q [.lis xs] h = q ⟨enumM xs, fun h2 => seqM h2 (.lis xs) = some xs⟩ h := rfl
def wEnumI2 (a : WA) : WI := fun ρ h q e => a ρ h (kEnum2 q) e
@[simp ↓] theorem wEnumI2_s {a : WA} {ρ : En} {h : MH} {q : ItM → MH → Prop} {e : QX} : wEnumI2 a ρ h q e = a ρ h (kEnum2 q) e := rfl
theorem si_enum2 {X : Cx} {e : Expr} {a : WA} {p pos tpos : Pos} {elts : List Expr} {kk : Nat} (hm : X.mg "enumerate" = none) (hg : Gl X "enumerate") (h : SA X [e] a) (hs : starEach [e] X.env = [(false, eval e X.env)] := by rfl) :
    SI X (.Tuple elts kk tpos) (.Call (.Name "enumerate" p) [e] [] pos) (wEnumI2 a) := by
  refine ⟨fun pins s σ H R I ⟨ρ, h0, q, e', sr, hr, tk, w, k⟩ => ?_⟩
  refine Call_ (ld_blt I hg hm boot_enumerate (PyProof.Rows.callWith_type1 (thn (h.run pos pins s σ H (fun vs H1 => ∃ xs h1, VRs X.K H1 xs vs ∧ TK H H1 ∧ HR X.K h1 H1 ∧ kEnum2 q xs h1) I ⟨ρ, h0, kEnum2 q, e', sr, hr, tk, w, fun xs vs h1 H1 t1 r1 v1 w1 => ⟨xs, h1, v1, t1, r1, w1⟩⟩) fun us s1 ⟨vs, H1, I1, r1, xs, h1, v1, t1, hr1, w1⟩ => ?_) hs rfl))
  unfold kEnum2 at w1
  split at w1
  · rename_i ys
    obtain ⟨v, e1, rv⟩ := v1.one
    subst e1
    obtain ⟨a, us2, e2, sq, rs⟩ := VR_tup.mp rv
    subst e2
    rw [Vals.ref1 r1]
    obtain ⟨its, rv, p', hz⟩ := I1.tuple sq
    refine call_enumT (begins_tuple a its.toArray) p' fun h' he hit hsz hk => wpAny_pyIter_enum he ?_
    exact ⟨s1.heap.objs.size + 1, [s1.heap.objs.size + 1, s1.heap.objs.size], _, _, H1, rfl, I1.kept (t' := s1.toks) hk, turn_enumT a (s1.heap.objs.size + 1) s1.heap.objs.size, ⟨⟨.none, he⟩, ⟨_, hit, rfl, rfl⟩, Nat.succ_ne_self _⟩, fpTwo I1, k _ _ h1 H1 t1 hr1 (jm_enumT sq rs) w1⟩
  · rename_i v nt
    have nt2 : ∀ ys, v ≠ .tup ys := fun ys e => nt ys (by rw [e])
    have w2 : seqK h1 v fun items => q ⟨enumM items, fun h2 => seqM h2 v = some items⟩ h1 := by
      unfold kEnum at w1
      split at w1
      · rename_i ys' e'
        cases e'
        exact absurd rfl (nt2 _)
      · rename_i v' _ ev
        cases ev
        exact w1
      · exact w1.elim
    rw [← seqK_eq] at w2
    obtain ⟨items, ei, w2⟩ := w2
    obtain ⟨u, e2, ru⟩ := v1.one
    subst e2
    obtain ⟨a, us2, e3, _, _⟩ := seq_ok hr1 ru ei
    subst e3
    obtain ⟨ys, sq, _⟩ := seq_list nt2 ru hr1 ei
    rw [Vals.ref1 r1]
    obtain ⟨its, rv, p', hz⟩ := I1.list sq
    refine call_enumerate_list (p'.isList) fun h' he hit hsz hk => wpAny_pyIter_enum he ?_
    exact ⟨s1.heap.objs.size + 1, [s1.heap.objs.size + 1, s1.heap.objs.size], _, _, H1, rfl, I1.kept (t' := s1.toks) hk, turn_enum a (s1.heap.objs.size + 1) s1.heap.objs.size, ⟨⟨.none, he⟩, hit, Nat.succ_ne_self _⟩, fpTwo I1, k _ _ h1 H1 t1 hr1 (jm_enum ru nt2) w2⟩
  · exact w1.elim
end MM
end
section
namespace MM
open PySem PySem.Spec PyProof.Rows L2
theorem bits_log {z : Int} (h : Builtin.Int.intBits z ≤ 1048576) : z.natAbs.log2 ≤ 2000000 := by
  rw [Builtin.Int.intBits] at h
  by_cases q : z = 0
  · subst q; decide
  · have q2 : (z == 0) = false := by simp [q]
    rw [q2] at h
    simp at h
    omega
theorem gen_h {F : MH → Prop} {H : MH} (P : MH → Prop) (h : P H) (k : ∀ H5, P H5 → F H5) : F H := k H h
theorem bEq_tints {n : Bool} {as : List Int} {h : MH} {q : QV} {e : QX} (z : q (.bl (n ^^ true)) h) : bEqB n (.tup (as.map MV.int)) (.tup (as.map MV.int)) h q e := by
  have a : PyData.canLayAll0 (as.map PyData.int) = true ∧ PyData.depthAll (as.map PyData.int) = 0 := by
    clear z
    induction as with
    | nil => exact ⟨rfl, rfl⟩
    | cons n ns ih =>
      obtain ⟨a, b⟩ := ih
      exact ⟨by simp only [List.map_cons, PyData.canLayAll0, PyData.canLay0, a, Bool.and_true], by simp only [List.map_cons, PyData.depthAll, PyData.depth, b, Nat.max_self]⟩
  have sh : SeqAt.shaped (.tuple (as.map PyData.int)) = true := by
    unfold SeqAt.shaped
    refine Bool.and_eq_true_iff.mpr ⟨by simp only [PyData.canLay0, a.1], decide_eq_true ?_⟩
    simp only [PyData.depth, a.2]
    decide
  have dtl : ∀ as : List Int, DTs h (as.map PyData.int) (as.map MV.int) := fun as => by
    induction as with
    | nil => simp [DTs]
    | cons n ns ih => simp only [List.map_cons, DTs]; exact ⟨_, _, rfl, by simp [DT], ih⟩
  have dt : DT h (.tuple (as.map PyData.int)) (.tup (as.map MV.int)) := by simp only [DT]; exact ⟨_, rfl, dtl as⟩
  refine ⟨_, _, dt, dt, sh, sh, ?_⟩
  rw [SeqAt.eqv_refl _ (SeqAt.canLay_of_shaped sh)]
  exact z
/-! ### data, as simp takes it -/
mutual
theorem DT_dM {h : MH} : ∀ (x : MV) (d : PyData), flt x = true → DT h d x → d = dM x
  | .non, d, _, t => by
    cases d <;> simp only [DT] at t <;> first | (cases t; done) | (cases t; rfl) | (obtain ⟨_, z, _⟩ := t; cases z; done) | (rcases t with ⟨_, z, _⟩ | ⟨_, _, z, _⟩ <;> cases z)
  | .bl b, d, _, t => by
    cases d <;> simp only [DT] at t <;> first | (cases t; done) | (cases t; rfl) | (obtain ⟨_, z, _⟩ := t; cases z; done) | (rcases t with ⟨_, z, _⟩ | ⟨_, _, z, _⟩ <;> cases z)
  | .int b, d, _, t => by
    cases d <;> simp only [DT] at t <;> first | (cases t; done) | (cases t; rfl) | (obtain ⟨_, z, _⟩ := t; cases z; done) | (rcases t with ⟨_, z, _⟩ | ⟨_, _, z, _⟩ <;> cases z)
  | .str b, d, _, t => by
    cases d <;> simp only [DT] at t <;> first | (cases t; done) | (cases t; rfl) | (obtain ⟨_, z, _⟩ := t; cases z; done) | (rcases t with ⟨_, z, _⟩ | ⟨_, _, z, _⟩ <;> cases z)
  | .tup xs, d, f, t => by
    cases d <;> simp only [DT] at t <;> first | (cases t; done) | skip
    · rcases t with ⟨_, z, _⟩ | ⟨_, _, z, _⟩ <;> cases z
    · obtain ⟨ys, e, ts⟩ := t
      cases e
      rw [DTs_dM xs _ (by simpa only [flt] using f) ts]
      rfl
  | .lis xs, d, f, t => by
    cases d <;> simp only [DT] at t <;> first | (cases t; done) | skip
    · rcases t with ⟨ys, e, ts⟩ | ⟨_, _, z, _⟩
      · cases e
        rw [DTs_dM xs _ (by simpa only [flt] using f) ts]
        rfl
      · cases z
    · obtain ⟨_, z, _⟩ := t; cases z
  | .ref _, d, f, t => by simp [flt] at f
  | .ty _, d, f, t => by simp [flt] at f
  | .obj _ _ _, d, f, t => by simp [flt] at f
  | .err _ _ _ _ _, d, f, t => by simp [flt] at f
  | .slc _ _ _, d, f, t => by simp [flt] at f
theorem DTs_dM {h : MH} : ∀ (xs : List MV) (ds : List PyData), flts xs = true → DTs h ds xs → ds = dMs xs
  | [], ds, _, t => by
    cases ds with
    | nil => rfl
    | cons d r => simp only [DTs] at t; obtain ⟨_, _, e, _⟩ := t; cases e
  | x :: xs, ds, f, t => by
    cases ds with
    | nil => simp only [DTs] at t; cases t
    | cons d r =>
      simp only [DTs] at t
      obtain ⟨_, _, e, t1, t2⟩ := t
      cases e
      simp only [flts, Bool.and_eq_true] at f
      rw [DT_dM x d f.1 t1, DTs_dM xs r f.2 t2]
      rfl
end
def Da (x : MV) : Prop := ∃ d m, d ≤ 64 ∧ m ≤ sizeLine ∧ Dt d m x
theorem Dt.da {d m : Nat} {x : MV} (t : Dt d m x) (h1 : d ≤ 64 := by decide) (h2 : m ≤ sizeLine := by decide) : Da x := ⟨d, m, h1, h2, t⟩
theorem bEq_da {n : Bool} {x y : MV} {h : MH} {q : QV} {e : QX} (a : Da x) (b : Da y) : bEqB n x y h q e = q (.bl (n ^^ eqP x y)) h := by
  obtain ⟨d, m, h1, h2, t⟩ := a
  obtain ⟨d', m', h1', h2', t'⟩ := b
  refine propext ⟨fun z => ?_, fun z => bEq_dt t t' z h1 h1'⟩
  have fin : (∃ d e, DT h d x ∧ DT h e y ∧ SeqAt.shaped d = true ∧ SeqAt.shaped e = true ∧ q (.bl (n ^^ PyData.eqv d e)) h) → q (.bl (n ^^ eqP x y)) h := fun ⟨a1, a2, b1, b2, _, _, b3⟩ => by
    rw [DT_dM x a1 t.f b1, DT_dM y a2 t'.f b2] at b3
    exact b3
  unfold bEqB at z
  split at z
  · rename_i i j
    have : (i == j) = decide (i = j) := by by_cases q : i = j <;> simp [q]
    simp only [eqP, dM, PyData.eqv]
    rw [this]
    exact z
  · rename_i i j
    have : (i == j) = decide (i = j) := by by_cases q : i = j <;> simp [q]
    simp only [eqP, dM, PyData.eqv]
    rw [this]
    exact z
  · exact fin z
theorem rp_da {x : MV} {h : MH} {q : QV} {e : QX} (a : Da x) : spRepr [x] h q e = q (.str (dM x).shown) h := by
  obtain ⟨d, m, h1, h2, t⟩ := a
  refine propext ⟨fun z => ?_, fun z => rp_dt t z h1 h2⟩
  obtain ⟨dd, t1, _, _, _, z⟩ := z
  rw [DT_dM x dd t.f t1] at z
  exact z
theorem eqP_da {x : MV} (a : Da x) : eqP x x = true := let ⟨_, _, _, _, t⟩ := a; eqP_refl t
theorem Da.int {i : Int} (h : i.natAbs ≤ 10 ^ 30) : Da (.int i) := (Dt.int h).da
theorem Da.bl {b : Bool} : Da (.bl b) := Dt.bl.da
theorem Da.non : Da .non := Dt.non.da
theorem Da.nil : Da (.tup []) := (Dt.tup (d := 0) (m := 0) fun _ m => by cases m).da
theorem Da.nilL : Da (.lis []) := (Dt.lis (d := 0) (m := 0) fun _ m => by cases m).da
end MM
end
section
namespace MM
open PySem PySem.Spec PyProof.Rows L2
/-! ### own <, <=, >, >= -/
/-- where the class's method of an order stands -/
structure CmO (P : Program) (w : World) (K : PySem.W.Frag) (mg : Str → Option Value) (base : Heap) (k : Nat) (C : Addr) (own : List Addr) (op : CmpOp) (Φ : Spec) : Prop where
  isi : IsiOk K (isiT own)
  ins : ∀ D ∈ own, InsC K D
  nf : ∀ a ∈ names7, PySem.W.notFirst K C (.type a) = true
  nfo : ∀ D ∈ own, PySem.W.notFirst K C (.ref D) = true
  ex : ∃ f, PySem.W.findIn K (.ref C) (cmpInfo op).2.1 = some (some (.ref f)) ∧ PySem.W.isFn K (.ref f) = true ∧ ∀ X : Cx, On P w K mg base k X → CallM X (.ref f) Φ
/-- x op y, x an instance of C -/
def bCmO (C : Addr) (own : List Addr) (Φ : Spec) : B2 := fun x y h q _ => ∃ fs, insM h x = some (C, fs) ∧ (∃ t, typM h y = some t ∧ ∀ D, t = .ref D → D ∈ own) ∧ Φ [x, y] h q NoX
section
variable {X : Cx} {P : Program} {w : World} {K : PySem.W.Frag} {mg : Str → Option Value} {base : Heap} {k j : Nat} {C : Addr} {own : List Addr} {op : CmpOp} {Φ : Spec} {a b : Expr} {wa wb : WE} {pos : Pos}
theorem op_cmO (O : CmO P w K mg base j C own op Φ) (o : On P w K mg base k X) (hj : j ≤ k) (hop : ∀ x u : Value, compareOp op x u = richCompare op x u) : OpR X (compareOp op) (rOwn X (bCmO C own Φ)) := by
  obtain ⟨isi, ho, Enf, Enfo, f, hs, hf, F⟩ := O
  have c := (F X (o.mono hj)).q
  obtain ⟨rfl, rfl, rfl, rfl, rfl, rm, gu⟩ := o
  rintro pins s σ H x y v u Q I rx ry ⟨mx, my, h, q, hh, vx, vy, b, kk⟩
  obtain ⟨fs, e1, ⟨t, e2, e3⟩, φ⟩ := b
  obtain ⟨p, dx, gs, e0, g1, _⟩ := ins_ok hh vx e1
  subst e0
  obtain ⟨mA, J, _⟩ := ins_get I.hok g1
  obtain ⟨od, J, _⟩ := J.look
  obtain ⟨m, hF⟩ := I.fr
  cases (show v = .ref p from rx)
  obtain ⟨Pr, kx, kp, _⟩ := kit_of I ry (tyx_ok hh vy e2 fun D e => ho D (e3 D e))
  have L := kx.ty (model X.prog X.w) s.heap I.kIn kp
  have nf : PySem.W.notFirst X.K C t = true := by
    cases t with
    | type a => exact Enf a (typM_ty e2)
    | ref D => exact Enfo D (e3 D rfl)
    | _ =>
      exfalso
      cases my with
      | ref p' =>
        simp only [typM] at e2
        split at e2 <;> cases e2
      | _ => cases e2
  rw [hop]
  refine PySem.W.cmp_K (op := op) (tb := t) (by have := rm.un; omega) hF I.ok.mod.kin J L nf hs hf ?_
  exact wpAny_mono (c pins s σ H h [mx, my] [.ref p, y] [.ref p, u] q Q I hh (VRs_cons.mpr ⟨_, _, rfl, vx, VRs_cons.mpr ⟨_, _, rfl, vy, by simp⟩⟩) (.cons rfl (.cons ry .nil)) φ kk) (fun _ _ z => cmpback z) fun _ _ z => z
theorem se_cmO (O : CmO P w K mg base j C own op Φ) (on : On P w K mg base k X) (ha : SE X a wa) (hb : SE X b wb) (hj : j ≤ k := by decide) (hop : ∀ x u : Value, compareOp op x u = richCompare op x u := by exact fun _ _ => rfl) (hm : behindInMarks op b = false := by with_unfolding_all rfl) : SE X (.Compare a [op] [b] pos) (wBin (bCmO C own Φ) wa wb) :=
  se_cmp (b2_own fun _ _ _ _ _ z => z) (op_cmO O on hj hop) ha hb hm
theorem st_cmO (O : CmO P w K mg base j C own op Φ) (on : On P w K mg base k X) (ha : SE X a wa) (hb : SE X b wb) (hj : j ≤ k := by decide) (hop : ∀ x u : Value, compareOp op x u = richCompare op x u := by exact fun _ _ => rfl) (hm : behindInMarks op b = false := by with_unfolding_all rfl) : ST X (.Compare a [op] [b] pos) (wTB (wBin (bCmO C own Φ) wa wb)) :=
  st_cmp (b2_own fun _ _ _ _ _ z => z) (op_cmO O on hj hop) ha hb hm
end
section
variable {P : Program} {w : World} {K : PySem.W.Frag} {mg : Str → Option Value} {base : Heap} {k : Nat} {C : Addr} {own : List Addr} {Φ : Spec} {h : MH} {q : QV} {e : QX} {x y : MV}
theorem Me.le (M : Me P w K mg base k C "__le__" Φ) (isi : IsiOk K (isiT own)) (ins : ∀ D ∈ own, InsC K D) (E : EqF K C own) : CmO P w K mg base k C own .LtE Φ := by
  obtain ⟨_, f, m, F⟩ := M
  exact ⟨isi, ins, E.nf, E.nfo, f, m.at_, m.fn, F⟩
theorem Me.lt (M : Me P w K mg base k C "__lt__" Φ) (isi : IsiOk K (isiT own)) (ins : ∀ D ∈ own, InsC K D) (E : EqF K C own) : CmO P w K mg base k C own .Lt Φ := by
  obtain ⟨_, f, m, F⟩ := M
  exact ⟨isi, ins, E.nf, E.nfo, f, m.at_, m.fn, F⟩
theorem Me.ge (M : Me P w K mg base k C "__ge__" Φ) (isi : IsiOk K (isiT own)) (ins : ∀ D ∈ own, InsC K D) (E : EqF K C own) : CmO P w K mg base k C own .GtE Φ := by
  obtain ⟨_, f, m, F⟩ := M
  exact ⟨isi, ins, E.nf, E.nfo, f, m.at_, m.fn, F⟩
theorem Me.gt (M : Me P w K mg base k C "__gt__" Φ) (isi : IsiOk K (isiT own)) (ins : ∀ D ∈ own, InsC K D) (E : EqF K C own) : CmO P w K mg base k C own .Gt Φ := by
  obtain ⟨_, f, m, F⟩ := M
  exact ⟨isi, ins, E.nf, E.nfo, f, m.at_, m.fn, F⟩
def kCmT (own : List Addr) (Φ : Spec) (x y : MV) (h : MH) (q : QV) : Value → Prop := fun t => (∀ D, t = .ref D → D ∈ own) ∧ Φ [x, y] h q NoX
@[simp ↓] theorem kCmT_t {n : String} : kCmT own Φ x y h q (.type n) = Φ [x, y] h q NoX := propext ⟨fun z => z.2, fun z => ⟨fun _ e => (by cases e), z⟩⟩
@[simp ↓] theorem kCmT_r {D : Addr} : kCmT own Φ x y h q (.ref D) = (D ∈ own ∧ Φ [x, y] h q NoX) := propext ⟨fun z => ⟨z.1 D rfl, z.2⟩, fun z => ⟨fun _ e => by cases e; exact z.1, z.2⟩⟩
def kCmI (C : Addr) (own : List Addr) (Φ : Spec) (x y : MV) (h : MH) (q : QV) : Addr → List (Str × MV) → Prop := fun D _ => D = C ∧ typK h y (kCmT own Φ x y h q)
@[simp ↓] theorem kCmI_s {D : Addr} {fs : List (Str × MV)} : kCmI C own Φ x y h q D fs = (D = C ∧ typK h y (kCmT own Φ x y h q)) := rfl
@[simp ↓] theorem bCmO_s : bCmO C own Φ x y h q e = insK h x (kCmI C own Φ x y h q) := by
  have e2 : bCmO C own Φ x y h q e = (∃ fs, insM h x = some (C, fs) ∧ typK h y (kCmT own Φ x y h q)) := by
    unfold bCmO typK
    refine congrArg _ (funext fun fs => ?_)
    refine congrArg _ ?_
    cases typM h y with
    | none => exact propext ⟨fun ⟨⟨_, z, _⟩, _⟩ => (by cases z), fun z => z.elim⟩
    | some t => exact propext ⟨fun ⟨⟨t', z, a⟩, b⟩ => by cases z; exact ⟨a, b⟩, fun ⟨a, b⟩ => ⟨⟨t, rfl, a⟩, b⟩⟩
  rw [e2]
  exact insK_eq
end
/-! ### data without bools: == is = -/
mutual
def noB : MV → Bool
  | .non => true | .int _ => true | .str _ => true
  | .tup xs => noBs xs
  | .lis xs => noBs xs
  | _ => false
def noBs : List MV → Bool
  | [] => true
  | x :: xs => noB x && noBs xs
end
mutual
theorem eqP_iff0 : ∀ x y : MV, noB x = true → noB y = true → (PyData.eqv (dM x) (dM y) = true ↔ x = y)
  | .non, y, f, g => by cases y <;> simp_all [noB, dM, PyData.eqv]
  | .int i, y, f, g => by cases y <;> simp_all [noB, dM, PyData.eqv]
  | .str i, y, f, g => by cases y <;> simp_all [noB, dM, PyData.eqv]
  | .tup xs, y, f, g => by
    cases y <;> simp only [noB] at f g <;> (try cases g) <;> simp only [dM, PyData.eqv, reduceCtorEq]
    rename_i ys
    rw [eqPs_iff0 xs ys f g]
    simp
  | .lis xs, y, f, g => by
    cases y <;> simp only [noB] at f g <;> (try cases g) <;> simp only [dM, PyData.eqv, reduceCtorEq]
    rename_i ys
    rw [eqPs_iff0 xs ys f g]
    simp
  | .bl _, y, f, g => by simp [noB] at f
  | .ref _, y, f, g => by simp [noB] at f
  | .ty _, y, f, g => by simp [noB] at f
  | .obj _ _ _, y, f, g => by simp [noB] at f
  | .err _ _ _ _ _, y, f, g => by simp [noB] at f
  | .slc _ _ _, y, f, g => by simp [noB] at f
theorem eqPs_iff0 : ∀ xs ys : List MV, noBs xs = true → noBs ys = true → (PyData.eqvAll (dMs xs) (dMs ys) = true ↔ xs = ys)
  | [], [], _, _ => by simp [dMs, PyData.eqvAll]
  | [], y :: ys, _, _ => by simp [dMs, PyData.eqvAll]
  | x :: xs, [], _, _ => by simp [dMs, PyData.eqvAll]
  | x :: xs, y :: ys, f, g => by
    simp only [noBs, Bool.and_eq_true] at f g
    simp only [dMs, PyData.eqvAll, Bool.and_eq_true]
    rw [eqP_iff0 x y f.1 g.1, eqPs_iff0 xs ys f.2 g.2]
    simp
end
theorem eqP_iff {x y : MV} (f : noB x = true) (g : noB y = true) : eqP x y = true ↔ x = y := eqP_iff0 x y f g
theorem noBs_of : ∀ {xs : List MV}, (∀ x ∈ xs, noB x = true) → noBs xs = true
  | [], _ => rfl
  | x :: xs, h => by simp only [noBs, h x (by simp), noBs_of fun y m => h y (List.mem_cons_of_mem _ m), Bool.and_self]
theorem ev_noB {x : MV} (g : GoodEv x) : noB x = true := by
  rcases g with ⟨k, hk, rfl⟩ | ⟨k, u, hk, hu, rfl⟩ | ⟨u, p, v, hu, hp, hp3, hv, hv2, rfl⟩ <;> simp [noB, noBs]
theorem evs_noB {xs : List MV} (g : ∀ x ∈ xs, GoodEv x) : noB (.tup xs) = true := by
  simp only [noB]
  exact noBs_of fun x m => ev_noB (g x m)
/-! ### what comes of what -/
def subB : List MV → List MV → Bool
  | [], _ => true
  | _ :: _, [] => false
  | x :: xs, y :: ys => if eqP x y then subB xs ys else subB (x :: xs) ys
theorem subB_iff : ∀ {xs ys : List MV}, (∀ x ∈ xs, noB x = true) → (∀ y ∈ ys, noB y = true) → (subB xs ys = true ↔ xs.Sublist ys)
  | [], ys, _, _ => by simp [subB]
  | x :: xs, [], _, _ => by simp [subB]
  | x :: xs, y :: ys, f, g => by
    unfold subB
    have e := eqP_iff (f x (by simp)) (g y (by simp))
    split
    · rename_i q
      have q := e.mp q
      subst q
      rw [subB_iff (fun z m => f z (List.mem_cons_of_mem _ m)) (fun z m => g z (List.mem_cons_of_mem _ m))]
      exact List.cons_sublist_cons.symm
    · rename_i q
      have q : x ≠ y := fun z => q (e.mpr z)
      rw [subB_iff f (fun z m => g z (List.mem_cons_of_mem _ m))]
      constructor
      · exact fun s => s.cons _
      · intro s
        cases s with
        | cons _ s => exact s
        | cons_cons _ s => exact absurd rfl q
end MM
end
section
namespace MM
open PySem PySem.Spec PyProof.Rows L2
/-! ### -a -/
def kNeg (q : QV) : QV := fun x h => match x with | .int i => q (.int (-i)) h | _ => False
@[simp ↓] theorem kNeg_s {q : QV} {i : Int} {h : MH} : kNeg q (.int i) h = q (.int (-i)) h := rfl
def wNeg (w : WE) : WE := fun ρ h q e => w ρ h (kNeg q) e
@[simp ↓] theorem wNeg_s {w : WE} {ρ : En} {h : MH} {q : QV} {e : QX} : wNeg w ρ h q e = w ρ h (kNeg q) e := rfl
theorem se_neg {X : Cx} {a : Expr} {w : WE} {pos : Pos} (ha : SE X a w) : SE X (.UnaryOp .USub a pos) (wNeg w) := PE.imp (pe_un un_neg ha) fun σ H Q ⟨ρ, h, q, e, sr, hr, tk, w, k⟩ => ⟨ρ, h, _, e, sr, hr, tk, w, fun x v h1 H1 t1 r1 v1 w1 => by
  cases x with
  | int i =>
    simp at v1
    subst v1
    exact ⟨i, rfl, k (.int (-i)) _ h1 H1 t1 r1 (by simp) w1⟩
  | _ => exact w1.elim⟩
/-! ### lists, sliced with a step -/
/-- the places that a slice takes -/
def slIx (n : Nat) (lo hi st : Option Int) : List Nat := sliceRange (sliceBounds lo hi st n).1 (sliceBounds lo hi st n).2.1 (sliceBounds lo hi st n).2.2
def slL {α : Type} (xs : List α) (lo hi st : Option Int) : List α := (slIx xs.length lo hi st).filterMap (xs[·]?)
theorem slicePick_eq (its : List Value) (lo hi st : Option Int) : slicePick its.toArray lo hi st = (slL its lo hi st).toArray := by
  unfold slicePick slL slIx
  simp
theorem VRs.pick {K : PySem.W.Frag} {H : Hp} {xs : List MV} {vs : List V} (r : VRs K H xs vs) : ∀ is : List Nat, VRs K H (is.filterMap (xs[·]?)) (is.filterMap (vs[·]?))
  | [] => by simp
  | i :: is => by
    have ih := VRs.pick r is
    rcases Nat.lt_or_ge i xs.length with h | h
    · have e1 : xs[i]? = some xs[i] := List.getElem?_eq_getElem h
      obtain ⟨v, e2, rv⟩ := r.get e1
      rw [List.filterMap_cons, List.filterMap_cons, e1, e2]
      exact VRs_cons.mpr ⟨_, _, rfl, rv, ih⟩
    · have e1 : xs[i]? = none := List.getElem?_eq_none h
      have e2 : vs[i]? = none := List.getElem?_eq_none (by rw [← r.length]; exact h)
      rw [List.filterMap_cons, List.filterMap_cons, e1, e2]
      exact ih
theorem VRs.slL {K : PySem.W.Frag} {H : Hp} {xs : List MV} {vs : List V} (r : VRs K H xs vs) (lo hi st : Option Int) : VRs K H (slL xs lo hi st) (slL vs lo hi st) := by
  unfold MM.slL
  rw [r.length]
  exact r.pick _
theorem vals_pick {vs : List V} {us : List Value} (r : Vals vs us) : ∀ is : List Nat, Vals (is.filterMap (vs[·]?)) (is.filterMap (us[·]?))
  | [] => .nil
  | i :: is => by
    have ih := vals_pick r is
    have hl := r.length
    rcases Nat.lt_or_ge i vs.length with h | h
    · have e1 : vs[i]? = some vs[i] := List.getElem?_eq_getElem h
      obtain ⟨u, e2, ru⟩ := r.get e1
      rw [List.filterMap_cons, List.filterMap_cons, e1, e2]
      exact .cons ru ih
    · have e1 : vs[i]? = none := List.getElem?_eq_none h
      have e2 : us[i]? = none := List.getElem?_eq_none (by rw [← hl]; exact h)
      rw [List.filterMap_cons, List.filterMap_cons, e1, e2]
      exact ih
theorem slL_len {α : Type} (xs : List α) (lo hi st : Option Int) (h0 : st ≠ some 0) : (slL xs lo hi st).length ≤ (slIx xs.length lo hi st).length := List.length_filterMap_le _ _
def tSl3L (K : PySem.W.Frag) (te : TE) (tl tu ts : TO) : TE := fun σ H Q => te σ H fun x H1 => tl σ H1 fun lo H2 => tu σ H2 fun hi H3 => ts σ H3 fun st H4 => ∃ a xs, x = .ref a ∧ SqL K H4 a xs ∧ st ≠ some 0 ∧ (slL xs lo hi st).length ≤ sizeLine ∧ ∀ p, H4 p = none → Q (.ref p) (upd H4 p (.lst (slL xs lo hi st)))
theorem pe_sl3L {X : Cx} {e : Expr} {lo hi st : Option Expr} {te : TE} {tl tu ts : TO} {p3 pos : Pos} (he : PE X e te) (hl : PO X lo tl) (hu : PO X hi tu) (hs : PO X st ts)
    (hsub : ∀ (a b : Addr), subscripted (.Slice lo hi st p3) false (.ref a) (.ref b) = operate [.ref a, .ref b] (getItem (.ref a) (.ref b)) := by intros; with_unfolding_all rfl) : PE X (.Subscript e (.Slice lo hi st p3) pos) (tSl3L X.K te tl tu ts) := by
  refine ⟨fun pins s σ H Q I z => Subscript_ (thn (he.run pins s σ H _ I z) fun v s1 ⟨x, H1, I1, r1, q1⟩ => ?_)⟩
  refine wpAny_Slice (thn (hl.run pins s1 σ H1 _ I1 q1) fun vl s2 ⟨l, H2, I2, pl, q2⟩ => ?_)
  refine thn (hu.run pins s2 σ H2 _ I2 q2) fun vu s3 ⟨u, H3, I3, pu, q3⟩ => ?_
  refine thn (hs.run pins s3 σ H3 _ I3 q3) fun vs s4 ⟨o, H4, I4, ps, a, xs, ex, hx, h0, hz2, q⟩ => ?_
  subst ex
  cases r1
  have I5 := I4.kept (t' := s4.toks) (h' := s4.heap.push { cls := .type "slice", data := .fields #[vl, vu, vs] }) fun _ _ => Heap.get?_push_of_some _
  have ⟨its, r, ht, hz⟩ := I5.list hx
  have hlen := r.length
  show wpAny (model X.prog X.w) X.A (subscriptTail e (.Slice lo hi st p3) (.ref a) (.ref s4.heap.objs.size)) (EP X pins σ Q) X.xe { s4 with heap := s4.heap.push { cls := .type "slice", data := .fields #[vl, vu, vs] } }
  refine tail_any (ops := [.ref a, .ref s4.heap.objs.size]) ht.isList.typeIs (PySem.slot_list_getitem.lookup) ?_ (hsub _ _)
  refine wpAny_getItem_list_slice ht.isList (Heap.IsSliceOf.new _ vl vu vs) pl pu ps h0 ?_ (by rw [List.size_toArray]; omega)
  rw [slicePick_eq]
  refine ⟨.ref _, _, I5.laid (t' := s4.toks) (o := .lst (slL xs l u o)) (fun b ob q => Heap.get?_push_of_some _ q) (Nat.le_refl _) ?_, rfl, q _ (I5.hok.fresh (Nat.le_refl _))⟩
  refine ⟨hz2, (slL its l u o), 0, ?_, Heap.get?_push_size _ rfl⟩
  unfold slL
  rw [r.length]
  exact vals_pick r _
def kSl3d (l u s : Option Int) (h : MH) (q : QV) : List MV → Prop := fun xs => s ≠ some 0 ∧ (slL xs l u s).length ≤ sizeLine ∧ newL h (.lst (slL xs l u s)) q
@[simp ↓] theorem kSl3d_s {l u s : Option Int} {h : MH} {q : QV} {xs : List MV} : kSl3d l u s h q xs = (s ≠ some 0 ∧ (slL xs l u s).length ≤ sizeLine ∧ newL h (.lst (slL xs l u s)) q) := rfl
def kSl3c (x : MV) (l u : Option Int) (q : QV) : Option Int → MH → Prop := fun s h => lisK h x (kSl3d l u s h q)
@[simp ↓] theorem kSl3c_s {x : MV} {l u s : Option Int} {h : MH} {q : QV} : kSl3c x l u q s h = lisK h x (kSl3d l u s h q) := rfl
def kSl3b (x : MV) (l : Option Int) (st : WO) (ρ : En) (q : QV) (e : QX) : Option Int → MH → Prop := fun u h => st ρ h (kSl3c x l u q) e
@[simp ↓] theorem kSl3b_s {x : MV} {l u : Option Int} {st : WO} {ρ : En} {h : MH} {q : QV} {e : QX} : kSl3b x l st ρ q e u h = st ρ h (kSl3c x l u q) e := rfl
def kSl3a (x : MV) (hi st : WO) (ρ : En) (q : QV) (e : QX) : Option Int → MH → Prop := fun l h => hi ρ h (kSl3b x l st ρ q e) e
@[simp ↓] theorem kSl3a_s {x : MV} {l : Option Int} {hi st : WO} {ρ : En} {h : MH} {q : QV} {e : QX} : kSl3a x hi st ρ q e l h = hi ρ h (kSl3b x l st ρ q e) e := rfl
def kSl30 (lo hi st : WO) (ρ : En) (q : QV) (e : QX) : QV := fun x h => lo ρ h (kSl3a x hi st ρ q e) e
@[simp ↓] theorem kSl30_s {x : MV} {lo hi st : WO} {ρ : En} {h : MH} {q : QV} {e : QX} : kSl30 lo hi st ρ q e x h = lo ρ h (kSl3a x hi st ρ q e) e := rfl
def wSl3L (w : WE) (lo hi st : WO) : WE := fun ρ h q e => w ρ h (kSl30 lo hi st ρ q e) e
@[simp ↓] theorem wSl3L_s {w : WE} {lo hi st : WO} {ρ : En} {h : MH} {q : QV} {e : QX} : wSl3L w lo hi st ρ h q e = w ρ h (kSl30 lo hi st ρ q e) e := rfl
theorem se_sl3L {X : Cx} {a : Expr} {lo hi st : Option Expr} {wa : WE} {wl wu ws : WO} {p3 pos : Pos} (ha : SE X a wa) (hl : SO X lo wl) (hu : SO X hi wu) (hs : SO X st ws)
    (hsub : ∀ (a b : Addr), subscripted (.Slice lo hi st p3) false (.ref a) (.ref b) = operate [.ref a, .ref b] (getItem (.ref a) (.ref b)) := by intros; with_unfolding_all rfl) : SE X (.Subscript a (.Slice lo hi st p3) pos) (wSl3L wa wl wu ws) :=
  PE.imp (pe_sl3L ha hl hu hs hsub) fun σ H Q ⟨ρ, h, q, e, sr, hr, tk, w, k⟩ => ⟨ρ, h, _, e, sr, hr, tk, w, fun x v h1 H1 t1 r1 v1 w1 => ⟨ρ, h1, _, e, sr.tk t1, r1, tk_mono t1 tk, w1, fun l h2 H2 t2 r2 w2 =>
    ⟨ρ, h2, _, e, sr.tk (t1.trans t2), r2, tk_mono (t1.trans t2) tk, w2, fun u h3 H3 t3 r3 w3 => ⟨ρ, h3, _, e, sr.tk (t1.trans (t2.trans t3)), r3, tk_mono (t1.trans (t2.trans t3)) tk, w3, fun s h4 H4 t4 r4 w4 => by
      obtain ⟨xs, e1, h0, hz, w5⟩ := lisK_get w4
      have tt := t1.trans (t2.trans (t3.trans t4))
      have v4 := VR.tk (t2.trans (t3.trans t4)) x v1
      obtain ⟨p, vs, e2, sq, rs⟩ := lis_ok r4 v4 e1
      subst e2
      refine ⟨p, vs, rfl, sq, h0, by rw [← (rs.slL l u s).length]; exact hz, fun p' n => ?_⟩
      have t5 := TK.new (o := .lst (slL vs l u s)) n
      exact k _ _ (h4.put p' (.lst (slL xs l u s))) _ (tt.trans t5) (r4.new n ⟨_, upd_same, (rs.slL l u s).tk t5 _⟩) (by simp) (w5 p' (r4.free n))⟩⟩⟩⟩
theorem fm_congr {α β : Type} {f g : α → Option β} : ∀ {l : List α}, (∀ x ∈ l, f x = g x) → l.filterMap f = l.filterMap g
  | [], _ => rfl
  | x :: l, h => by
    rw [List.filterMap_cons, List.filterMap_cons, h x (by simp), fm_congr fun y m => h y (List.mem_cons_of_mem _ m)]
theorem fm_all {α : Type} (xs : List α) : (List.range xs.length).filterMap (fun i => xs[i]?) = xs := by
  have : ∀ (n : Nat) (ys : List α), (List.range' n ys.length).filterMap (fun i => if n ≤ i then ys[i - n]? else none) = ys := by
    intro n ys
    induction ys generalizing n with
    | nil => rfl
    | cons y ys ih =>
      rw [List.length_cons, List.range'_succ, List.filterMap_cons]
      simp only [Nat.le_refl, if_true, Nat.sub_self, List.getElem?_cons_zero]
      refine congrArg (y :: ·) ((fm_congr fun i hi => ?_).trans (ih (n + 1)))
      have h1 : n + 1 ≤ i := (List.mem_range'_1.mp hi).1
      rw [if_pos (by omega), if_pos h1]
      have : i - n = (i - (n + 1)) + 1 := by omega
      rw [this, List.getElem?_cons_succ]
  have z := this 0 xs
  simp only [Nat.zero_le, if_true, Nat.sub_zero] at z
  rw [← List.range_eq_range'] at z
  exact z
/-- [::-1] -/
theorem slIx_rev (n : Nat) : slIx n none none (some (-1)) = (List.range n).reverse := by
  unfold slIx
  have b := PySem.W.krv_bounds n
  rw [b]
  exact PySem.W.krv_sliceRange n |>.trans (PySem.W.krv_range n)
theorem slL_rev {α : Type} {xs : List α} : slL xs none none (some (-1)) = xs.reverse := by
  unfold slL
  rw [slIx_rev, List.filterMap_reverse, fm_all]
/-! ### some of the items, by draws -/
section
variable {g : WG} {tt : WT} {te : WE} {own : List Nat} {ρ : En} {h : MH} {q : QV} {items : List MV} {stay : MH → Prop}
theorem lc_some (R : MV → Prop) (c : Nat) (hl : items.length < sizeLine) (hs : ∀ n D acc, h.at_ D = none → stay ((h.sp n).put D (.lst acc)))
    (hstep : ∀ D acc x k, x ∈ items → h.at_ D = none → k + 1 ≤ items.length → ∀ (qy : QV) (qn : MH → Prop), (∀ y, R y → qy y ((h.sp (c * k + c)).put D (.lst acc))) → qn ((h.sp (c * k + c)).put D (.lst acc)) → g x (wipeM ρ own) ((h.sp (c * k)).put D (.lst acc)) (kLcT tt te qy qn) NX)
    (z : ∀ ys : List MV, ys.length ≤ items.length → (∀ y ∈ ys, R y) → newL (h.sp (c * items.length)) (.lst ys) q) : kLc g tt te own ρ q ⟨items, stay⟩ h := by
  refine kLc_rule (fun D acc r h' => h.at_ D = none ∧ (∀ x ∈ r, x ∈ items) ∧ acc.length + r.length ≤ items.length ∧ r.length ≤ items.length ∧ (∀ y ∈ acc, R y) ∧ h' = (h.sp (c * (items.length - r.length))).put D (.lst acc)) (fun D n => ⟨n, fun _ m => m, by simp, Nat.le_refl _, by simp, by simp⟩) (fun D acc r h' ⟨n, _, _, _, _, e⟩ => by rw [e]; exact hs _ D acc n) ?_ ?_
  · rintro D acc x r h' ⟨n, hm, hl2, hr, e1, rfl⟩ qy qn k1 k2
    simp only [List.length_cons] at hl2 hr ⊢
    have e0 : items.length - r.length = items.length - (r.length + 1) + 1 := by omega
    have e9 : c * (items.length - r.length) = c * (items.length - (r.length + 1)) + c := by rw [e0, Nat.mul_succ]
    refine hstep D acc x (items.length - (r.length + 1)) (hm x (by simp)) n (by omega) qy qn (fun y ry => ?_) ?_
    · refine k1 y _ MH.put_same (by omega) ⟨n, fun z m => hm z (by simp [m]), by simp; omega, by omega, ?_, ?_⟩
      · intro z m
        rcases List.mem_append.mp m with m | m
        · exact e1 z m
        · simp at m; subst m; exact ry
      · rw [MH.put_put, e9]
    · refine k2 _ ⟨n, fun z m => hm z (by simp [m]), by omega, by omega, e1, ?_⟩
      rw [e9]
  · rintro D acc h' ⟨n, _, hl2, _, e1, rfl⟩
    simp at hl2 ⊢
    exact z acc hl2 e1 D n
end
theorem cutM_mem {xs : List MV} {lo hi : Option Int} {y : MV} (m : y ∈ cutM xs lo hi) : y ∈ xs := List.mem_of_mem_drop (List.mem_of_mem_take m)
theorem cutM_le {xs : List MV} {lo hi : Option Int} : (cutM xs lo hi).length ≤ xs.length := by
  unfold cutM
  simp only [List.length_take, List.length_drop]
  omega
end MM
end
section
set_option maxHeartbeats 2000000
namespace MM
open PySem PySem.Spec PyProof.Rows L2
/-! ### own errors with one attribute -/
/-- the class object of an own error: itself first in its row of bases, the rest as p says, a dict for its instances, made by the base's __new__ -/
def ownErrB (p : List Value → Bool) (new : String) (K : PySem.W.Frag) (C : Addr) : Bool := match K.lookup C with
  | some ⟨.type t, _, .cls ⟨_, _, .ref D :: more, _, _, dict, _, _, _, _, dels⟩, ⟨[_, _, _, _, some (.builtin n), _]⟩⟩ => decide (t = "type" ∧ D = C ∧ n = new) && (p more && (dict && !dels))
  | _ => false
theorem ownErr_ok {p : List Value → Bool} {new : String} {K : PySem.W.Frag} {C : Addr} (c : ownErrB p new K C = true) :
    ∃ nm q N bs bm sn sub ab col dd k0 k1 k2 k3 k5, K.lookup C = some (excClassObj nm q C N bs bm true sn sub ab col dd k0 k1 k2 k3 k5 new) ∧ p bm = true := by
  unfold ownErrB at c
  split at c
  next here =>
    obtain ⟨c1, c⟩ := He.ba c
    obtain ⟨c2, c⟩ := He.ba c
    obtain ⟨c3, c4⟩ := He.ba c
    obtain ⟨rfl, rfl, rfl⟩ := of_decide_eq_true c1
    cases c3
    cases Bool.not_eq_true' _ ▸ c4
    exact ⟨_, _, _, _, _, _, _, _, _, _, _, _, _, _, _, here, c2⟩
  next => cases c
/-- what the head asks of an error's class besides -/
def errB (K : PySem.W.Frag) (C : Addr) : Bool := He.eqO (PySem.W.findIn K (.ref C) "__setattr__") (some (some (.builtin "object.__setattr__"))) && (decide (PySem.W.subIn K (.ref C) (.type "BaseException") = some true) && (decide (PySem.W.typeIn K (.ref C) = some (.type "type")) && PySem.W.keepIn K (.ref C)))
/-- what the head asks of an error's class -/
def oexB (x : Str) : FaM := fun K => ownErrB PySem.HandSPX.refsVE "ValueError.__new__" K (He.ga K x) && errB K (He.ga K x)
theorem oex_ok {K : PySem.W.Frag} {x : Str} (c : oexB x K = true) : OexC K (He.ga K x) := by
  obtain ⟨c1, c⟩ := He.ba c
  obtain ⟨c2, c⟩ := He.ba c
  obtain ⟨c3, c⟩ := He.ba c
  obtain ⟨c4, c5⟩ := He.ba c
  exact ⟨ownErr_ok c1, He.eqO_ok c2, of_decide_eq_true c3, of_decide_eq_true c4, c5⟩
theorem passN {X : Cx} : Passes (L2N.CX X.prog X.w) X (fun _ _ _ => False) := fun _ _ _ _ _ _ _ ⟨_, _, _, _, _, _, _, _, _, _, _, _, z⟩ => z.elim
/-- C(e, ..) where C is an own error over the base B and its __init__ is a def of the text; nothing is handled around it -/
theorem pmkB {X : Cx} {p pos : Pos} {e : Expr} {es : List Expr} {ta : TA} {CX : CXT} {x : Str} {C fI : Addr} {k : Nat} {fd : FuncData} {ps : List Str} {sp : Sp} {ds : List Value} {dvs : List V} {B new init : String} {tail : List Value} (base : ExcBaseFacts B new init tail)
    (cls : ∃ nm q N bs bm sn sub ab col dd k0 k1 k2 k3 k5, X.K.lookup C = some (excClassObj nm q C N bs bm true sn sub ab col dd k0 k1 k2 k3 k5 new) ∧ ∀ T : String, bm.contains (.type T) = tail.contains (.type T))
    (exC : PySem.W.subIn X.K (.ref C) (.type "BaseException") = some true) (tyC : PySem.W.typeIn X.K (.ref C) = some (.type "type")) (kC : PySem.W.keepIn X.K (.ref C) = true)
    (iC : PySem.W.findIn X.K (.ref C) "__init__" = some (some (.ref fI))) (tI : PySem.W.typeIn X.K (.ref fI) = some (.type "function")) (F1 : FnOk X.prog X.w X.K X.mg X.base CX k fI fd ps sp) (hr : Room (k + 1) X.A) (hb : Binds X.K fd ps ds) (hd : Vals dvs ds)
    (hx : Passes CX X (fun _ _ _ => False)) (hg : Gl X x) (hm : X.mg x = some (.ref C)) (ha : PA X (e :: es) ta) (hdb : (x == ("__debug__" : Str)) = false := by decide) (he : starEach (e :: es) X.env = (false, eval e X.env) :: starEach es X.env := by rfl)
    (hpl : (backTo pos (starEach es X.env)).any (·.1) = false := by rfl) : L2N.PMk X (.Call (.Name x p) (e :: es) [] pos) (tMkO C sp dvs ta) := by
  intro pins s σ H Q I want
  obtain ⟨_, _, _, _, _, _, _, _, _, _, _, _, _, _, _, hC, same⟩ := cls
  refine wpAny_Call_Name_kw (ld_glob I hg hm (PySem.W.callWith_K (h₀ := X.base) I.ok.mod.kin kC (thn (ha.run pos pins s σ H _ I want) fun us s1 ⟨vs, H1, J, r, few, made⟩ => ⟨J.kIn, ?_⟩) he hpl) hdb)
  cases s1 with | mk hp g dr tk os =>
  -- the arguments' tuple and the object behind it
  have keep : ∀ b o, hp.get? b = some o → ((hp.push (PySem.W.kdv_tup us)).push (PySem.HandSPX.excO C hp.objs.size)).get? b = some o := fun _ _ q => Heap.get?_push_of_some _ (Heap.get?_push_of_some _ q)
  have J2 : Inv X pins σ (upd H1 (hp.objs.size + 1) (exo (hp.objs.size + 1) C none)) ⟨(hp.push (PySem.W.kdv_tup us)).push (PySem.HandSPX.excO C hp.objs.size), g, dr, tk, os⟩ := J.laid (t' := tk) keep (Nat.le_succ _) (exo_ok (t1 := hp.objs.size) (by heap_get))
  have all : Vals (.ref (hp.objs.size + 1) :: (vs ++ dvs)) (.ref (hp.objs.size + 1) :: (us ++ ds)) := .cons rfl (r.append hd)
  have told := made (hp.objs.size + 1) (J.hok.fresh (Nat.le_succ _))
  have fits : us.length ≤ sizeLine := by have := Paired.length r; rw [sizeLine_eq]; omega
  refine wpAny_call (PySem.HandSPX.call_own base same (J.kIn _ _ hC) (PySem.W.looks_findIn J.kIn iC) (fun self => PySem.W.bind_fn J.kIn self tI) fits (codeAny_mono
    (F1.run _ X.stack _ _ ⟨.ref (hp.objs.size + 1) :: us, []⟩ _ _ _ (fun _ _ _ => False) (hr.make C us []) (J2.env0.make C us []) (hb _ (.ref (hp.objs.size + 1) :: us) J2.kIn (all.length.symm.trans (F1.len _ _ _ _ told))) all told) fun res s' z => ?_))
  rcases cr_ends z with ⟨u, rfl, v, H2, os2, bare2, un2, hok2, rv, ev, d, fs, ea, ed, new, last⟩ | ⟨u, rfl, z⟩
  · subst ev
    cases s' with | mk h2 g2 d2 t2 os' =>
    obtain ⟨_, G, J3, kG, gone, at_, free⟩ := mk_end0 (d2 := d2) (t2 := t2) J (Nat.le_succ _) keep un2 hok2 os2 bare2 ea ed new
    exact ⟨rv, hp.objs.size + 1, _, _, ⟨G, g2, d2, t2, os'⟩, _, .ref C, some d, rfl, J3, kG, gone, at_, ⟨rfl, rfl, fun ws hw => by cases hw; rfl⟩, rfl, rfl, free, rfl, bare2, raises_own exC tyC, last⟩
  · exact hx pins σ _ _ u s' J2 z
/-- over ValueError -/
theorem pmkN {X : Cx} {p pos : Pos} {e : Expr} {es : List Expr} {ta : TA} {CX : CXT} {x : Str} {C fI : Addr} {k : Nat} {fd : FuncData} {ps : List Str} {sp : Sp} {ds : List Value} {dvs : List V} (T : OexC X.K C) (iC : PySem.W.findIn X.K (.ref C) "__init__" = some (some (.ref fI))) (tI : PySem.W.typeIn X.K (.ref fI) = some (.type "function"))
    (F1 : FnOk X.prog X.w X.K X.mg X.base CX k fI fd ps sp) (hr : Room (k + 1) X.A) (hb : Binds X.K fd ps ds) (hd : Vals dvs ds) (hx : Passes CX X (fun _ _ _ => False)) (hg : Gl X x) (hm : X.mg x = some (.ref C)) (ha : PA X (e :: es) ta) (hdb : (x == ("__debug__" : Str)) = false := by decide)
    (he : starEach (e :: es) X.env = (false, eval e X.env) :: starEach es X.env := by rfl) (hpl : (backTo pos (starEach es X.env)).any (·.1) = false := by rfl) : L2N.PMk X (.Call (.Name x p) (e :: es) [] pos) (tMkO C sp dvs ta) :=
  let ⟨nm, q, N, bs, bm, sn, sub, ab, col, dd, k0, k1, k2, k3, k5, hC, hbm⟩ := T.cls
  pmkB F.excBase_ValueError ⟨nm, q, N, bs, bm, sn, sub, ab, col, dd, k0, k1, k2, k3, k5, hC, fun Y => PySem.HandSPX.refsVE_contains Y bm hbm⟩ T.exC T.tyC T.kC iC tI F1 hr hb hd hx hg hm ha hdb he hpl
/-- self.F = F in an error that is being made -/
def spErr (K : PySem.W.Frag) (C : Addr) (F : Str) : Sp := fun vs H Q _ => ∃ (a : Addr) (y : V), vs = [.ref a, y] ∧ H a = some (exo a C none) ∧ ∀ dx, H dx = none → dx ≠ a → Q .non (upd (upd H dx (exd dx [(F, y)])) a (exo a C (some dx)))
/-- an error's class of the text: its name, its attribute, its own __init__ -/
structure ErrT (K : PySem.W.Frag) (mg : Str → Option Value) (x qual F : Str) (C : Addr) (st : Stmt) : Prop where
  oex : OexC K C
  no : PySem.W.findIn K (.ref C) F = some none
  g : mg x = some (.ref C)
  d : DfM K C "__init__" qual st []
/-- how its text is made -/
structure ErrS (qual F : Str) (st : Stmt) : Prop where
  sc : FnScope ["self", F] ["self", F] (defScope st)
  bd : ∀ (P : Program) (w : World) (K : PySem.W.Frag) (mg : Str → Option Value) (base : Heap) (f : Addr) (cdv : Value) (A : Around) (outer : List PySem.Env) (s : Shared) (H : Hp) (E : XK),
    PSs (cxOf (L2N.CX P w) P w K mg base ["self", F] qual (defScope st) f cdv A outer s H E) (defBody st) (tOst K F (tVar 0) (tVar 1))
  bind : BindN "__init__" qual st ["self", F]
/-- raise C(e) -/
def wRaise (C : Addr) (F : Str) (w : WE) : WS := fun ρ h d => w ρ h (fun y h1 => d.ex ⟨.ref C, some [(F, y)]⟩ ρ h1) (d.at_ ρ)
/-- what may be raised within the text -/
def ErrM (P : Program) (w : World) (K : PySem.W.Frag) (mg : Str → Option Value) (base : Heap) (x F : Str) (C : Addr) : Prop :=
  ∀ (X : Cx) (k : Nat), On P w K mg base k X → 2 ≤ k → X.calm = true → ∀ (e : Expr) (w : WE) (p pos pos2 : Pos), SE X e w → Gl X x → (x == ("__debug__" : Str)) = false → starEach (e :: []) X.env = (false, eval e X.env) :: starEach [] X.env → (backTo pos (starEach [] X.env)).any (·.1) = false →
    SS X (.Raise (some (.Call (.Name x p) [e] [] pos)) none pos2) (wRaise C F w)
theorem upd_del {H : Hp} {a d : Addr} {o u v : HO} (ha : H a = none) : upd (L2.del (upd (upd (upd H a o) d u) a v) a) d w = upd H d w := by
  funext b
  by_cases hd : b = d
  · rw [hd, upd_same, upd_same]
  · rw [upd_ne hd, upd_ne hd]
    by_cases hb : b = a
    · rw [hb, L2.del_same, ha]
    · rw [L2.del_ne hb, upd_ne hb, upd_ne hd, upd_ne hb]
theorem ErrT.m {P : Program} {w : World} {K : PySem.W.Frag} {mg : Str → Option Value} {base : Heap} {x qual F : Str} {C : Addr} {st : Stmt} (T : ErrT K mg x qual F C st) (S : ErrS qual F st) : ErrM P w K mg base x F C := by
  intro X k on hk hcalm e we p pos pos2 he hg hdb hst hpl
  obtain ⟨rfl, rfl, rfl, rfl, rfl, r, gu⟩ := on.mono hk
  obtain ⟨fI, fd, hm, D⟩ := T.d
  have F1 : FnOk X.prog X.w X.K X.mg X.base (L2N.CX X.prog X.w) 1 fI fd ["self", F] (spErr X.K C F) := by
    refine D.ok S.sc (fun vs H Q E h => ?_) (fun cdv A outer s H vs Q E hr h => ⟨_, S.bd _ _ _ _ _ fI cdv A outer s H E, ?_⟩)
    · obtain ⟨a, y, rfl, _⟩ := h
      rfl
    · obtain ⟨a, y, rfl, ea, k⟩ := h
      exact ⟨y, rfl, .ref a, rfl, a, C, rfl, T.oex, T.no, .inl ⟨ea, k⟩⟩
  have M := fun ta ha => pmkN (X := X) (p := p) (pos := pos) (k := 1) (ta := ta) (sp := spErr X.K C F) T.oex hm.at_ (by
      have := hm.fn
      unfold PySem.W.isFn at this
      exact beq_iff_eq.mp this) F1 r (D.bindsN S.bind) .nil passN hg T.g ha hdb hst hpl
  refine ⟨fun pins s σ H D I ⟨ρ, h, d, sr, hr, tk, wd, _⟩ => ?_⟩
  refine (L2N.ps_raise (W := LWs X.K H d.ex) hcalm tk (M _ (sa_cons he sa_nil hst))).run pins s σ H D I ?_
  refine ⟨ρ, h, fun xs h1 => match xs with | [y] => d.ex ⟨.ref C, some [(F, y)]⟩ ρ h1 | _ => False, d.at_ ρ, sr, hr, tks_at tk ρ, wd, ?_⟩
  intro mvs vs h1 H1 t1 r1 v1 w1
  match mvs, v1, w1 with
  | [y], v1, w1 =>
    obtain ⟨v, rfl, vy⟩ := v1.one
    refine ⟨by simp, fun a na => ⟨a, v, rfl, upd_same, fun dx nd ne => ⟨rfl, dx, [(F, v)], upd_same, by rw [upd_ne ne, upd_same], ?_, ?_⟩⟩⟩
    · rw [upd_ne ne] at nd
      exact nd
    · rw [upd_ne ne] at nd
      rw [upd_del na]
      have t2 : TK H1 (upd H1 dx (.xd [(F, v)])) := TK.new nd
      exact ⟨⟨.ref C, some [(F, y)]⟩, ρ, h1, t1.trans t2, sr.tk (t1.trans t2), r1.new' nd, ⟨rfl, dx, _, rfl, upd_same, rfl, VRs_cons.mpr ⟨_, _, rfl, VR.tk t2 _ vy, by simp⟩⟩, w1⟩
theorem ss_raise {P : Program} {w : World} {K : PySem.W.Frag} {mg : Str → Option Value} {base : Heap} {x F : Str} {C : Addr} {X : Cx} {k : Nat} {e : Expr} {we : WE} {p pos pos2 : Pos} (M : ErrM P w K mg base x F C) (on : On P w K mg base k X) (he : SE X e we) (hk : 2 ≤ k := by decide) (hc : X.calm = true := by rfl)
    (hg : Gl X x := by rfl) (hdb : (x == ("__debug__" : Str)) = false := by decide) (hst : starEach (e :: []) X.env = (false, eval e X.env) :: starEach [] X.env := by rfl) (hpl : (backTo pos (starEach [] X.env)).any (·.1) = false := by rfl) :
    SS X (.Raise (some (.Call (.Name x p) [e] [] pos)) none pos2) (wRaise C F we) := M X k on hk hc e we p pos pos2 he hg hdb hst hpl
@[simp ↓] theorem wRaise_s {C : Addr} {F : Str} {w : WE} {ρ : En} {h : MH} {d : MD} : wRaise C F w ρ h d = w ρ h (fun y h1 => d.ex ⟨.ref C, some [(F, y)]⟩ ρ h1) (d.at_ ρ) := rfl
end MM
end
section
set_option maxHeartbeats 2000000
namespace MM
open PySem PySem.Spec PyProof.Rows L2
/-! ### try: .. except C as e: .. -/
def MX.ns (x : MX) : List Str := (x.fs.getD []).map (·.1)
def MX.xs (x : MX) : List MV := (x.fs.getD []).map (·.2)
@[simp ↓] theorem MX.ns_s {c : Value} {fs : List (Str × MV)} : MX.ns ⟨c, some fs⟩ = fs.map (·.1) := rfl
@[simp ↓] theorem MX.xs_s {c : Value} {fs : List (Str × MV)} : MX.xs ⟨c, some fs⟩ = fs.map (·.2) := rfl
@[simp ↓] theorem MX.ns_n {c : Value} : MX.ns ⟨c, none⟩ = [] := rfl
@[simp ↓] theorem MX.xs_n {c : Value} : MX.xs ⟨c, none⟩ = [] := rfl
/-- in an except suite: nothing is let out; behind it the name is empty -/
def suD (i : Nat) (d : MD) : MD := ⟨fun ρ h => d.nx (ρ.set i none) h, d.rt, fun ρ h => d.bk (ρ.set i none) h, fun ρ h => d.ct (ρ.set i none) h, fun _ _ _ => False⟩
abbrev WSu := Addr → Option Addr → Addr → WS
/-- what the clause does with an error: X told, K: the written part -/
def kAs (C : Addr) (exm : Value → Option Bool) (i : Nat) (suite : WSu) (d : MD) : MX → En → MH → Prop := fun x ρ h => ∃ b, exm x.cls = some b ∧ (b = true → ∃ D, x.cls = .ref D ∧ ∀ (a : Addr) (dd : Option Addr), (x.fs = none → dd = none) → suite a dd D (ρ.set i (some (.err a (dd.getD a) D x.ns x.xs))) h (suD i d)) ∧ (b = false → d.ex x ρ h)
def asD (C : Addr) (exm : Value → Option Bool) (i : Nat) (suite : WSu) (d : MD) : MD := ⟨d.nx, d.rt, d.bk, d.ct, kAs C exm i suite d⟩
def wTryAs (C : Addr) (exm : Value → Option Bool) (i : Nat) (body : WS) (suite : WSu) : WS := fun ρ h d => body ρ h (asD C exm i suite d)
def tbM (K : PySem.W.Frag) (w : WS) (W : WX) : TS := fun D σ H => ∃ ρ h d, SR K H ρ σ ∧ HR K h H ∧ (∀ cls dd σ' H', LWs K H d.ex cls dd σ' H' → W cls dd σ' H') ∧ w ρ h d ∧
  (∀ ρ' σ' h' H', TK H H' → SR K H' ρ' σ' → HR K h' H' → d.nx ρ' h' → D.nx σ' H') ∧
  (∀ mv v h' H', TK H H' → HR K h' H' → VR K H' mv v → d.rt mv h' → D.rt v H') ∧
  (∀ ρ' σ' h' H', TK H H' → SR K H' ρ' σ' → HR K h' H' → d.bk ρ' h' → D.bk σ' H') ∧
  (∀ ρ' σ' h' H', TK H H' → SR K H' ρ' σ' → HR K h' H' → d.ct ρ' h' → D.ct σ' H')
def tsM (K : PySem.W.Frag) (su : WSu) (a : Addr) (cls : Value) (dd : Option Addr) : TS := fun D σ H => ∃ C ρ h d, cls = .ref C ∧ SR K H ρ σ ∧ HR K h H ∧ (∀ x ρ h, ¬ d.ex x ρ h) ∧ su a dd C ρ h d ∧
  (∀ ρ' σ' h' H', TK H H' → SR K H' ρ' σ' → HR K h' H' → d.nx ρ' h' → D.nx σ' H') ∧
  (∀ mv v h' H', TK H H' → HR K h' H' → VR K H' mv v → d.rt mv h' → D.rt v H') ∧
  (∀ ρ' σ' h' H', TK H H' → SR K H' ρ' σ' → HR K h' H' → d.bk ρ' h' → D.bk σ' H') ∧
  (∀ ρ' σ' h' H', TK H H' → SR K H' ρ' σ' → HR K h' H' → d.ct ρ' h' → D.ct σ' H')
theorem SR.clear {K : PySem.W.Frag} {H : Hp} {ρ : En} {σ : L2.St} {i : Nat} (r : SR K H ρ σ) : SR K H (ρ.set i none) (σ.set i none) := by
  refine ⟨by simp [r.len], fun j y e => ?_⟩
  by_cases hj : i = j
  · subst hj
    rw [List.getElem?_set] at e
    split at e
    · split at e <;> cases e
    · rename_i z; exact absurd rfl z
  · rw [List.getElem?_set_ne hj] at e
    obtain ⟨u, a, b⟩ := r.get j y e
    exact ⟨u, by rw [List.getElem?_set_ne hj]; exact a, b⟩
section
variable {X : Cx} {x n : Str} {C : Addr} {i : Nat} {body suite : List Stmt} {b₀ : Stmt} {np pos pos' : Pos} {wb : WS} {ws : WSu}
theorem ss_tryAs (hs : X.stack = X.env :: X.outer) (hf : X.env.frame = some X.env.locals) (hN : X.N.Nodup) (hi : X.N[i]? = some n) (hln : X.env.kindOf n = some .local) (hg : Gl X x) (hm : X.mg x = some (.ref C)) (hdb : (x == ("__debug__" : Str)) = false)
    (hb : ∀ (pn : List (Addr × Obj)) (xe : Value → Shared → Prop), PassesOwn (model X.prog X.w) X.A X.env xe → SSs (X.tr pn xe) body wb)
    (hsu : ∀ (a : Addr) (oe : Obj) (D : Addr) (d : Option Addr) (pn : List (Addr × Obj)), Zc (.ref D) d oe → (∃ vs, oe.data = .fields vs) → SSs (X.suite a ((a, oe) :: pn)) (b₀ :: suite) (ws a d D)) :
    SS X (.Try body [.ExceptHandler (some (.Name x np)) (some n) (b₀ :: suite) pos'] [] [] pos) (wTryAs C (fun c => PySem.W.exmOne X.K c (.ref C)) i wb ws) := by
  refine ⟨fun pins s σ H D I ⟨ρ, h, d, sr, hr, tk, w, knx, krt, kbk, kct⟩ => ?_⟩
  refine (L2N.ps_try_as (X := X) (x := x) (n := n) (c := .ref C) (i := i) (np := np) (pos := pos) (pos' := pos') (body := body) (suite := suite) (b₀ := b₀) (tb := tbM X.K wb) (ts := tsM X.K ws) (Wout := LWs X.K H d.ex) hs hf hN hi hln ⟨hg, hdb, .inl hm⟩ tk ?_ ?_).run pins s σ H D I ?_
  · intro W pn xe tkW ps
    refine PSs.imp (hb pn xe ps) fun D σ H ⟨ρ, h, d, sr, hr, im, w, k⟩ => ⟨ρ, h, d, sr, hr, tkW.imp fun cls dd σ' H' z => im cls dd σ' H' z, w, k⟩
  · intro a oe cls dd pn z zf
    cases cls with
    | ref D =>
      refine PSs.imp (hsu a oe D dd pn z.zc zf) fun D' σ H ⟨C', ρ, h, d, ec, sr, hr, nx, w, k⟩ => ?_
      cases ec
      exact ⟨ρ, h, d, sr, hr, takes0.imp fun cls dd σ' H' ⟨mx, ρ', h', _, _, _, _, e⟩ => nx mx ρ' h' e, w, k⟩
    | _ =>
      refine ⟨fun pins s σ H D' I ⟨C', _, _, _, ec, _⟩ => ?_⟩
      cases ec
  · refine ⟨ρ, h, asD C (fun c => PySem.W.exmOne X.K c (.ref C)) i ws d, sr, hr, ?_, w, knx, krt, kbk, kct⟩
    rintro cls dd σ' H' ⟨mx, ρ', h', t, sr', hr', rx, b, hb1, hyes, hno⟩
    obtain ⟨ec, ef⟩ := rx
    subst ec
    refine ⟨b, hb1, fun eb a ha => ?_, fun eb => ⟨mx, ρ', h', t, sr', hr', ⟨rfl, ef⟩, hno eb⟩⟩
    obtain ⟨D', ed, k⟩ := hyes eb
    refine ⟨D', ρ'.set i (some (.err a (dd.getD a) D' mx.ns mx.xs)), h', suD i d, ed, sr'.set ?_, hr', fun _ _ _ z => z, k a dd (fun e => by rw [e] at ef; exact ef), ?_, ?_, ?_, ?_⟩
    · rw [VR_err]
      cases e : mx.fs with
      | none => exact ⟨[], rfl, .inl (by simp [MX.ns, e]), by simp [MX.ns, e], by simp [MX.xs, e]⟩
      | some fs =>
        rw [e] at ef
        obtain ⟨a', gs, e1, e2, e3, e4⟩ := ef
        subst e1
        exact ⟨gs, rfl, .inr e2, by simp [MX.ns, e, e3], by simpa [MX.xs, e] using e4⟩
    · exact fun ρ2 σ2 h2 H2 t2 s2 r2 z => knx _ _ _ _ (t.trans t2) s2.clear r2 z
    · exact fun mv v h2 H2 t2 r2 v2 z => krt _ _ _ _ (t.trans t2) r2 v2 z
    · exact fun ρ2 σ2 h2 H2 t2 s2 r2 z => kbk _ _ _ _ (t.trans t2) s2.clear r2 z
    · exact fun ρ2 σ2 h2 H2 t2 s2 r2 z => kct _ _ _ _ (t.trans t2) s2.clear r2 z
end
end MM
end
section
set_option maxHeartbeats 2000000
namespace MM
open PySem PySem.Spec PyProof.Rows L2
/-! ### the error that a suite holds -/
/-- an error's class -/
def er (K : PySem.W.Frag) (x : Str) : Addr := He.ga K x
theorem On.tr {P : Program} {w : World} {K : PySem.W.Frag} {mg : Str → Option Value} {base : Heap} {k : Nat} {X : Cx} (o : On P w K mg base k X) {pn : List (Addr × Obj)} {xe : Value → Shared → Prop} : On P w K mg base k (X.tr pn xe) := ⟨o.prog, o.w, o.K, o.mg, o.base, o.room, o.gu⟩
/-- what is asked of an error's class -/
structure ErrF (K : PySem.W.Frag) (D : Addr) : Prop where
  cl : (PySem.W.clsIn K D).isSome = true
  ga : PySem.W.findIn K (.ref D) "__getattribute__" = some (some (.builtin "BaseException.__getattribute__"))
  gg : PySem.W.findIn K (.ref D) "__getattr__" = some none
  sub : PySem.W.subIn K (.ref D) (.type "BaseException") = some true
  ca : PySem.W.findIn K (.ref D) "__class__" = some (some (.builtin "object.__class__"))
  hn : PySem.W.specialIn K (.builtin "object.__class__") "__get__" = .some (.some (.builtin "getset_descriptor.__get__"))
  tk : PySem.W.takesIn K (.builtin "object.__class__") = some true
  mo : PySem.W.mroIn K D (.type "object") = some true
  hd : (PySem.W.hasDictIn K D) = true
def errFB (x : Str) : FaM := fun K => (PySem.W.clsIn K (He.ga K x)).isSome && (He.eqO (PySem.W.findIn K (.ref (He.ga K x)) "__getattribute__") (some (some (.builtin "BaseException.__getattribute__"))) && (He.eqO (PySem.W.findIn K (.ref (He.ga K x)) "__getattr__") (some none) &&
  (decide (PySem.W.subIn K (.ref (He.ga K x)) (.type "BaseException") = some true) && (He.eqO (PySem.W.findIn K (.ref (He.ga K x)) "__class__") (some (some (.builtin "object.__class__"))) && (He.eqO (PySem.W.specialIn K (.builtin "object.__class__") "__get__") (some (some (.builtin "getset_descriptor.__get__"))) &&
  (decide (PySem.W.takesIn K (.builtin "object.__class__") = some true) && (decide (PySem.W.mroIn K (He.ga K x) (.type "object") = some true) && PySem.W.hasDictIn K (He.ga K x))))))))
theorem errF_ok {K : PySem.W.Frag} {x : Str} (c : errFB x K = true) : ErrF K (He.ga K x) := by
  obtain ⟨c1, c⟩ := He.ba c
  obtain ⟨c2, c⟩ := He.ba c
  obtain ⟨c3, c⟩ := He.ba c
  obtain ⟨c4, c⟩ := He.ba c
  obtain ⟨c5, c⟩ := He.ba c
  obtain ⟨c6, c⟩ := He.ba c
  obtain ⟨c7, c⟩ := He.ba c
  obtain ⟨c8, c9⟩ := He.ba c
  exact ⟨c1, He.eqO_ok c2, He.eqO_ok c3, of_decide_eq_true c4, He.eqO_ok c5, He.eqO_ok c6, of_decide_eq_true c7, of_decide_eq_true c8, c9⟩
/-- x is the error -/
def errK (a : Addr) (d : Option Addr) (D : Addr) (x : MV) (k : List Str → List MV → Prop) : Prop := match x with
  | .err a' d' D' ns xs => (a' = a ∧ d' = d.getD a ∧ D' = D ∧ (d = none ∨ ns ≠ [])) ∧ k ns xs
  | _ => False
@[simp ↓] theorem errK_s {a D : Addr} {d : Option Addr} {ns : List Str} {xs : List MV} {k : List Str → List MV → Prop} : errK a d D (.err a (d.getD a) D ns xs) k = ((d = none ∨ ns ≠ []) ∧ k ns xs) := by
  simp [errK]
theorem errK_get {a D : Addr} {d : Option Addr} {x : MV} {k : List Str → List MV → Prop} (e : errK a d D x k) : ∃ ns xs, x = .err a (d.getD a) D ns xs ∧ (d = none ∨ ns ≠ []) ∧ k ns xs := by
  cases x <;> first | exact e.elim | skip
  obtain ⟨⟨rfl, rfl, rfl, z⟩, k⟩ := e
  exact ⟨_, _, rfl, z, k⟩
section
variable {X : Cx} {a D : Addr} {oe : Obj} {d : Option Addr} {pn : List (Addr × Obj)}
theorem inst_err {pins : List (Addr × Obj)} {σ : L2.St} {H : Hp} {s : Shared} {ns : List Str} {xs : List MV} {v : V} (hz : Zc (.ref D) d oe) (hf : ∃ vs, oe.data = .fields vs) (I : Inv (X.suite a ((a, oe) :: pn)) pins σ H s) (r : VR X.K H (.err a (d.getD a) D ns xs) v) (h : d = none ∨ ns ≠ []) :
    v = .ref a ∧ ∃ od, PySem.W.InstAt s.heap a oe D od ∧ ∀ f x, (ns.zip xs).lookup f = some x → ∃ u u' o, od = some o ∧ VR X.K H x u ∧ RelV u u' ∧ PySem.W.lookIn f o = some (some u') := by
  obtain ⟨gs, ev, e1, e2, e3⟩ := VR_err.mp r
  obtain ⟨ha, _⟩ := I.pin (a, oe) (List.mem_append_left _ List.mem_cons_self)
  obtain ⟨vs, hd⟩ := hf
  refine ⟨ev, ?_⟩
  have zp := zip_ok e2 (by rw [e3.length, List.length_map])
  cases d with
  | none =>
    have en : ns = [] := by
      rcases e1 with e | e
      · exact e
      · have z : H a = none := (I.pin (a, oe) (List.mem_append_left _ List.mem_cons_self)).2.1
        rw [show (none : Option Addr).getD a = a from rfl, z] at e
        cases e
    subst en
    refine ⟨none, ⟨ha, hz.1, by unfold PySem.W.notCls; rw [hd] <;> rfl, by rw [hz.2]; trivial⟩, fun f x ex => ?_⟩
    cases ex
  | some dd =>
    have hne : ns ≠ [] := by
      rcases h with h | h
      · cases h
      · exact h
    have ea : H dd = some (.xd gs) := e1.resolve_left hne
    have hx : ObjOk X.prog X.w H s.heap dd (.xd gs) := I.hok dd _ ea
    obtain ⟨mA, hns, hr⟩ := hx
    have ⟨od, ho, hl⟩ := lookIn_ns hns
    refine ⟨some od, ⟨ha, hz.1, by unfold PySem.W.notCls; rw [hd] <;> rfl, by rw [hz.2]; exact ho⟩, fun f x ex => ?_⟩
    obtain ⟨u, hu, vu⟩ := lookup_some (K := X.K) (H := H) (gs := gs) ⟨zp.1.trans e2.symm, by rw [zp.2]; exact e3⟩ ex
    obtain ⟨u', hu', ru⟩ := RelO.some_of (v := u) (o := mA f) (by rw [← hu]; exact hr f)
    exact ⟨u, u', od, rfl, vu, ru, by rw [hl, hu']⟩
/-- e.f -/
def wErrAt (K : PySem.W.Frag) (a : Addr) (d : Option Addr) (D : Addr) (f : Str) (w : WE) : WE := fun ρ h q e => w ρ h (fun x h1 => errK a d D x (fun ns xs => ErrF K D ∧ PySem.W.findIn K (.ref D) f = some none ∧ ∃ v, (ns.zip xs).lookup f = some v ∧ q v h1)) e
theorem se_errAt {e : Expr} {w : WE} {f : Str} {pos : Pos} (hz : Zc (.ref D) d oe) (hf : ∃ vs, oe.data = .fields vs) (he : SE (X.suite a ((a, oe) :: pn)) e w) (hb : attributeBase e f X.env (eval e X.env) = eval e X.env := by rfl) :
    SE (X.suite a ((a, oe) :: pn)) (.Attribute e f pos) (wErrAt X.K a d D f w) := by
  refine ⟨fun pins s σ H Q I ⟨ρ, h, q, e', sr, hr, tk, wd, k⟩ => ?_⟩
  have hE : LE (X.suite a ((a, oe) :: pn)) w σ H fun v H1 => ∃ xm h1, TK H H1 ∧ HR X.K h1 H1 ∧ VR X.K H1 xm v ∧ errK a d D xm (fun ns xs => ErrF X.K D ∧ PySem.W.findIn X.K (.ref D) f = some none ∧ ∃ v, (ns.zip xs).lookup f = some v ∧ q v h1) :=
    ⟨ρ, h, _, e', sr, hr, tk, wd, fun x v h1 H1 t1 r1 v1 w1 => ⟨x, h1, t1, r1, v1, w1⟩⟩
  refine attr_of hb (thn (he.run pins s σ H _ I hE) fun u s1 ⟨x, H1, I1, rx, xm, h1, t1, r1, v1, ek⟩ => ?_)
  obtain ⟨ns, xs, rfl, hn, F, no, y, el, qy⟩ := errK_get ek
  obtain ⟨rfl, od, J, L⟩ := inst_err hz hf I1 v1 hn
  cases (show u = .ref a from rx)
  obtain ⟨w', u', o, rfl, vw, ru, lk⟩ := L f y el
  exact HandSPX.exc_get I1.kIn J F.ga F.gg F.sub (PySem.W.findObj_own F.hd no rfl lk) (handed_of ru) ⟨w', H1, I1.tok _, ru, k y w' h1 H1 t1 r1 vw qy⟩
/-- isinstance(e, c), isinstance(e, (c, ..)) -/
def isE (K : PySem.W.Frag) (D : Addr) (k : Value) : Option Bool := PySem.W.kitOne K (.ref D) k
def spIsE (K : PySem.W.Frag) (a : Addr) (d : Option Addr) (D : Addr) : Spec := fun args h q _ => match args with
  | [x, .tup cs] => errK a d D x (fun _ _ => ErrF K D ∧ ∃ ks bs, cs.mapM clsM = some ks ∧ ks.mapM (isE K D) = some bs ∧ q (.bl (bs.any id)) h)
  | [x, c] => errK a d D x (fun _ _ => ErrF K D ∧ ∃ k b, clsM c = some k ∧ isE K D k = some b ∧ q (.bl b) h)
  | _ => False
theorem kitAny_isE {K : PySem.W.Frag} {D : Addr} : ∀ {ks : List Value} {bs : List Bool}, ks.mapM (isE K D) = some bs → PySem.W.kitAny K (.ref D) ks = some (bs.any id)
  | [], bs, e => by simp at e; subst e; rfl
  | k :: ks, bs, e => by
    simp only [List.mapM_cons] at e
    cases q : isE K D k with
    | none => simp [q] at e
    | some b =>
      cases q2 : ks.mapM (isE K D) with
      | none => rw [q, q2] at e; cases e
      | some bs' =>
        rw [q, q2] at e
        cases e
        refine kitAny_cons q (fun z => ?_) fun z => ?_
        · subst z
          simpa using kitAny_isE q2
        · subst z; simp
theorem cm_isE (hz : Zc (.ref D) d oe) (hf : ∃ vs, oe.data = .fields vs) : CallM (X.suite a ((a, oe) :: pn)) (.builtin "isinstance") (spIsE X.K a d D) := by
  intro pins s σ H ρ h args vs us q e Q I sr hr tk va vv φ k
  unfold spIsE at φ
  split at φ
  · rename_i x cs
    obtain ⟨v, u, e1, r1, r2⟩ := va.two
    subst e1
    obtain ⟨ns, xs, rfl, hn, F, ks, bs, e3, e4, z⟩ := errK_get φ
    obtain ⟨rfl, od, J, _⟩ := inst_err hz hf I r1 hn
    obtain ⟨p, ws, rfl, sq, rs⟩ := VR_tup.mp r2
    obtain ⟨u1, u2, rfl, q1, q2⟩ := vals2 vv
    cases (show u1 = Value.ref a from q1)
    cases (show u2 = Value.ref p from q2)
    obtain ⟨its, rv, ht, hzz⟩ := I.tuple sq
    obtain ⟨o, h2, h3, n, h4⟩ := ht
    have e5 := ClsV.all (clsvs_ok rs e3) rv
    subst e5
    obtain ⟨oc, od', dt, sl⟩ := o
    simp only at h3 h4
    subst h3 h4
    exact PySem.W.kia_tup (PySem.W.kitx_exc F.cl F.ga F.gg F.sub F.ca F.hn F.tk F.mo) I.kIn J h2 (kitAny_isE e4) (fun z => nomatch z) fun tk => ⟨.bl _, H, I.tok tk, rfl, k _ _ h H (TK.refl H) hr (by simp) z⟩
  · rename_i x c _
    obtain ⟨v, u, e1, r1, r2⟩ := va.two
    subst e1
    obtain ⟨ns, xs, rfl, hn, F, kk, b, e3, e4, z⟩ := errK_get φ
    obtain ⟨rfl, od, J, _⟩ := inst_err hz hf I r1 hn
    obtain ⟨u1, u2, rfl, q1, q2⟩ := vals2 vv
    cases (show u1 = Value.ref a from q1)
    have e2 := (clsv_ok r2 e3).eq q2
    subst e2
    exact PySem.W.kia_one (PySem.W.kitx_exc F.cl F.ga F.gg F.sub F.ca F.hn F.tk F.mo) I.kIn J e4 (fun z => nomatch z) fun tk => ⟨.bl b, H, I.tok tk, rfl, k _ _ h H (TK.refl H) hr (by simp) z⟩
  · exact φ.elim
end
end MM
end
section
namespace MM
open PySem PySem.Spec PyProof.Rows L2
/-! ### str(x) -/
section
variable {X : Cx}
def spStr2 : Spec := fun args h q _ => match args with
  | [.int i] => i.natAbs.log2 < 1920 ∧ q (.str (toString i)) h
  | [.str z] => q (.str z) h
  | _ => False
@[simp ↓] theorem spStr2_i {i : Int} {h : MH} {q : QV} {e : QX} : spStr2 [.int i] h q e = (i.natAbs.log2 < 1920 ∧ q (.str (toString i)) h) := rfl
@[simp ↓] theorem spStr2_s {z : Str} {h : MH} {q : QV} {e : QX} : spStr2 [.str z] h q e = q (.str z) h := rfl
theorem cm_str2 : CallM X (.type "str") spStr2 := callM_r (fun args vs h H q e Q hh va φ k => by
  unfold spStr2 at φ
  split at φ
  · obtain ⟨v, e1, rv⟩ := va.one
    simp at rv
    subst e1 rv
    exact .inl ⟨_, rfl, φ.1, k _ _ h H (TK.refl H) hh (by simp) φ.2⟩
  · obtain ⟨v, e1, rv⟩ := va.one
    simp at rv
    subst e1 rv
    exact .inr ⟨_, rfl, k _ _ h H (TK.refl H) hh (by simp) φ⟩
  · exact φ.elim) (CallR.or call_str_int SkE.call_str_str)
theorem CallM.q2 {f : Value} {Φ : Spec} (c : CallM (cin (cin X)) f Φ) : CallQ X X.A.in1.in1 f Φ := fun pins s σ H h args vs us q Q I hh va vv φ k =>
  wpAny_mono (c pins s σ H (noEn σ) h args vs us q NoX Q (inv_in (inv_in I)) sr_no hh takes_no va vv φ k) (fun _ _ z => ep_out I.ok (ep_out (inv_in I).ok z)) fun _ _ z => z
def kStrR (q : QV) : QV := fun v h => match v with
  | .str z => q (.str z) h
  | _ => False
@[simp ↓] theorem kStrR_s {q : QV} {z : Str} {h : MH} : kStrR q (.str z) h = q (.str z) h := rfl
def kStrO (C : Addr) (Φ : Spec) (x : MV) (h : MH) (q : QV) : Addr → List (Str × MV) → Prop := fun D _ => D = C ∧ Φ [x] h (kStrR q) NoX
@[simp ↓] theorem kStrO_s {C D : Addr} {Φ : Spec} {x : MV} {h : MH} {q : QV} {fs : List (Str × MV)} : kStrO C Φ x h q D fs = (D = C ∧ Φ [x] h (kStrR q) NoX) := rfl
def spStrO (C : Addr) (Φ : Spec) : Spec := fun args h q _ => match args with
  | [x] => insK h x (kStrO C Φ x h q)
  | _ => False
@[simp ↓] theorem spStrO_s {C : Addr} {Φ : Spec} {x : MV} {h : MH} {q : QV} {e : QX} : spStrO C Φ [x] h q e = insK h x (kStrO C Φ x h q) := rfl
variable {P : Program} {w : World} {K : PySem.W.Frag} {mg : Str → Option Value} {base : Heap} {k j : Nat} {C f : Addr} {Φ : Spec}
theorem cm_strO (hs : PySem.W.findIn K (.ref C) "__str__" = some (some (.ref f))) (hf : PySem.W.isFn K (.ref f) = true) (on : On P w K mg base k X) (F : ∀ X : Cx, On P w K mg base j X → CallM X (.ref f) Φ) (hj : j + 2 ≤ k := by decide) : CallM X (.type "str") (spStrO C Φ) := by
  have c := (F (cin (cin X)) ((on.mono hj).in1.in1)).q2
  obtain ⟨rfl, rfl, rfl, rfl, rfl, rm, gu⟩ := on
  intro pins s σ H ρ h args vs us q e Q I sr hh tk va vv φ kk
  unfold spStrO at φ
  split at φ
  · rename_i x
    · obtain ⟨D, fs, ep, rfl, φ2⟩ := insK_get φ
      obtain ⟨v, e1, rv⟩ := va.one
      subst e1
      obtain ⟨p, dx, gs, e0, g1, _⟩ := ins_ok hh rv ep
      subst e0
      rw [Vals.ref1 vv]
      obtain ⟨mA, J, _⟩ := ins_get I.hok g1
      obtain ⟨od, J, _⟩ := J.look
      refine PySem.W.kso_call (by have := ((rm.mono hj).in1.in1).un; omega) I.kIn J hs hf ?_
      refine wpAny_mono (c pins s σ H h [x] [.ref p] [.ref p] _ (fun v H' => ∃ z : Str, v = .str z ∧ Q v H') I hh (VRs_cons.mpr ⟨_, _, rfl, rv, by simp⟩) (.cons rfl .nil) φ2 fun mv v h' H' t' r' vv z => by
        unfold kStrR at z
        split at z
        · have vv' := vv
          simp at vv
          subst vv
          exact ⟨_, rfl, kk _ _ h' H' t' r' (by simp) z⟩
        · exact z.elim) (fun r s' z => ?_) fun _ _ z => z
      obtain ⟨v', H', I', rv, y, e5, z⟩ := z
      subst e5
      obtain ⟨t, rfl⟩ := rv
      exact ⟨V.str y, H', I', ⟨t, rfl⟩, z⟩
  · exact φ.elim
structure StrO (P : Program) (w : World) (K : PySem.W.Frag) (mg : Str → Option Value) (base : Heap) (k : Nat) (C : Addr) (Φ : Spec) : Prop where
  ex : ∃ f, PySem.W.findIn K (.ref C) "__str__" = some (some (.ref f)) ∧ PySem.W.isFn K (.ref f) = true ∧ ∀ X : Cx, On P w K mg base k X → CallM X (.ref f) Φ
theorem Me.strO (M : Me P w K mg base k C "__str__" Φ) : StrO P w K mg base k C Φ := by
  obtain ⟨_, f, hm, F⟩ := M
  exact ⟨f, hm.at_, hm.fn, F⟩
theorem se_strO {p pos : Pos} {e : Expr} {es : List Expr} {wa : WA} (L : StrO P w K mg base j C Φ) (on : On P w K mg base k X) (hm : mg "str" = none) (ha : SA X (e :: es) wa) (hg : Gl X "str" := by rfl) (hj : j + 2 ≤ k := by decide)
    (he : starEach (e :: es) X.env = (false, eval e X.env) :: starEach es X.env := by rfl) (hpl : (backTo pos (starEach es X.env)).any (·.1) = false := by rfl) : SE X (.Call (.Name "str" p) (e :: es) [] pos) (wCall (spStrO C Φ) wa) := by
  obtain ⟨f, h1, h2, F⟩ := L.ex
  have c := cm_strO h1 h2 on F hj
  obtain ⟨rfl, rfl, rfl, rfl, rfl, r, g⟩ := on
  exact se_callTy c hm (by decide +kernel) hg ha (by decide) (by decide) he hpl
end
/-! ### join and split of frozen lists -/
def isStM : MV → Bool
  | .str _ => true
  | _ => false
def unS : MV → Str
  | .str z => z
  | _ => ""
@[simp] theorem isStM_s {z : Str} : isStM (.str z) = true := rfl
@[simp] theorem unS_s {z : Str} : unS (.str z) = z := rfl
theorem strs_un : ∀ {ys : List MV}, (∀ y ∈ ys, isStM y = true) → ys = (ys.map unS).map MV.str
  | [], _ => rfl
  | y :: r, h => by
    have h1 := h y (by simp)
    have h2 := strs_un (ys := r) fun y m => h y (by simp [m])
    cases y with
    | str z => rw [List.map_cons, List.map_cons, ← h2]; rfl
    | _ => cases h1
theorem strs_is : ∀ {zs : List Str}, (∀ y ∈ zs.map MV.str, isStM y = true) ∧ (zs.map MV.str).map unS = zs
  | [] => by simp
  | z :: zs => by
    obtain ⟨a, b⟩ := strs_is (zs := zs)
    refine ⟨fun y m => ?_, by rw [List.map_cons, List.map_cons, b]; rfl⟩
    rw [List.map_cons, List.mem_cons] at m
    rcases m with rfl | m
    · rfl
    · exact a y m
@[simp ↓] theorem mJoin_l {a : Str} {ys : List MV} {h : MH} {q : QV} {e : QX} : mJoin (.str a) [.lis ys] h q e = ((∀ y ∈ ys, isStM y = true) ∧ ((ys.map unS).map (·.length)).sum + ys.length * a.length ≤ 16777216 ∧ q (.str (Txt.join a (ys.map unS))) h) := by
  refine propext ⟨fun ⟨zs, e1, l, z⟩ => ?_, fun ⟨h1, l, z⟩ => ⟨ys.map unS, by show some ys = _; rw [← strs_un h1], by simpa using l, z⟩⟩
  have e2 : ys = zs.map MV.str := Option.some.inj e1
  subst e2
  obtain ⟨a1, a2⟩ := strs_is (zs := zs)
  rw [a2]
  exact ⟨a1, by simpa using l, z⟩
@[simp ↓] theorem mJoin_t {a : Str} {ys : List MV} {h : MH} {q : QV} {e : QX} : mJoin (.str a) [.tup ys] h q e = ((∀ y ∈ ys, isStM y = true) ∧ ((ys.map unS).map (·.length)).sum + ys.length * a.length ≤ 16777216 ∧ q (.str (Txt.join a (ys.map unS))) h) := mJoin_l (e := e)
end MM
end
section
namespace MM
open PySem PySem.Spec PyProof.Rows L2
/-! ### the run over try and errors -/
section
variable {C E a D : Addr} {exm : Value → Option Bool} {i : Nat} {body : WS} {suite : WSu} {d : MD} {ρ : En} {h : MH} {q : QV} {e : QX} {x : MX} {v : MV} {dd : Option Addr} {K : PySem.W.Frag} {ns : List Str} {xs : List MV}
@[simp ↓] theorem cxOf_K {CX : CXT} {P : Program} {w : World} {mg : Str → Option Value} {base : Heap} {N : List Str} {qual : Str} {scope : Scope} {f : Addr} {cdv : Value} {A : Around} {outer : List PySem.Env} {s : Shared} {H : Hp} {E : XK} : (cxOf CX P w K mg base N qual scope f cdv A outer s H E).K = K := rfl
@[simp ↓] theorem wTryAs_s : wTryAs C exm i body suite ρ h d = body ρ h (asD C exm i suite d) := rfl
@[simp ↓] theorem asD_nx : (asD C exm i suite d).nx ρ h = d.nx ρ h := rfl
@[simp ↓] theorem asD_rt : (asD C exm i suite d).rt v h = d.rt v h := rfl
@[simp ↓] theorem asD_bk : (asD C exm i suite d).bk ρ h = d.bk ρ h := rfl
@[simp ↓] theorem asD_ct : (asD C exm i suite d).ct ρ h = d.ct ρ h := rfl
@[simp ↓] theorem asD_ex : (asD C exm i suite d).ex x ρ h = kAs C exm i suite d x ρ h := rfl
@[simp ↓] theorem suD_nx : (suD i d).nx ρ h = d.nx (ρ.set i none) h := rfl
@[simp ↓] theorem suD_rt : (suD i d).rt v h = d.rt v h := rfl
@[simp ↓] theorem suD_bk : (suD i d).bk ρ h = d.bk (ρ.set i none) h := rfl
@[simp ↓] theorem suD_ct : (suD i d).ct ρ h = d.ct (ρ.set i none) h := rfl
/-- the clause takes it -/
theorem kAs_t {fs : List (Str × MV)} (m : exm (.ref E) = some true) (z : ∀ (a : Addr) (dd : Option Addr), suite a dd E (ρ.set i (some (.err a (dd.getD a) E (fs.map (·.1)) (fs.map (·.2))))) h (suD i d)) : kAs C exm i suite d ⟨.ref E, some fs⟩ ρ h :=
  ⟨true, m, fun _ => ⟨E, rfl, fun a dd _ => z a dd⟩, fun z => Bool.noConfusion z⟩
theorem kAs_f {fs : Option (List (Str × MV))} (m : exm (.ref E) = some false) (z : d.ex ⟨.ref E, fs⟩ ρ h) : kAs C exm i suite d ⟨.ref E, fs⟩ ρ h :=
  ⟨false, m, fun z => Bool.noConfusion z, fun _ => z⟩
def isEK (K : PySem.W.Frag) (D : Addr) (k : Value) (κ : Bool → Prop) : Prop := match isE K D k with | some b => κ b | none => False
theorem isEK_of {k : Value} {κ : Bool → Prop} {b : Bool} (e : isE K D k = some b) : isEK K D k κ = κ b := by unfold isEK; rw [e]
@[simp ↓] theorem spIsE_r : spIsE K a dd D [.err a (dd.getD a) D ns xs, .ref C] h q e = ((dd = none ∨ ns ≠ []) ∧ ErrF K D ∧ isEK K D (.ref C) (fun b => q (.bl b) h)) := by
  have e0 : spIsE K a dd D [.err a (dd.getD a) D ns xs, .ref C] h q e = errK a dd D (.err a (dd.getD a) D ns xs) (fun _ _ => ErrF K D ∧ ∃ k b, clsM (.ref C) = some k ∧ isE K D k = some b ∧ q (.bl b) h) := rfl
  rw [e0, errK_s]
  unfold isEK
  cases e1 : isE K D (.ref C) with
  | none => simp [clsM, e1]
  | some b => cases b <;> simp [clsM, e1]
@[simp ↓] theorem spIsE_t2 {C1 C2 : Addr} : spIsE K a dd D [.err a (dd.getD a) D ns xs, .tup [.ref C1, .ref C2]] h q e = ((dd = none ∨ ns ≠ []) ∧ ErrF K D ∧ isEK K D (.ref C1) (fun b => isEK K D (.ref C2) (fun c => q (.bl (b || c)) h))) := by
  have e0 : spIsE K a dd D [.err a (dd.getD a) D ns xs, .tup [.ref C1, .ref C2]] h q e = errK a dd D (.err a (dd.getD a) D ns xs) (fun _ _ => ErrF K D ∧ ∃ ks bs, [MV.ref C1, MV.ref C2].mapM clsM = some ks ∧ ks.mapM (isE K D) = some bs ∧ q (.bl (bs.any id)) h) := rfl
  rw [e0, errK_s]
  unfold isEK
  cases e1 : isE K D (.ref C1) <;> cases e2 : isE K D (.ref C2) <;> simp [clsM, e1, e2]
def kErrAt (K : PySem.W.Frag) (a : Addr) (dd : Option Addr) (D : Addr) (f : Str) (q : QV) : QV := fun x h => errK a dd D x (fun ns xs => ErrF K D ∧ PySem.W.findIn K (.ref D) f = some none ∧ ∃ v, (ns.zip xs).lookup f = some v ∧ q v h)
@[simp ↓] theorem wErrAt_s {f : Str} {w : WE} : wErrAt K a dd D f w ρ h q e = w ρ h (kErrAt K a dd D f q) e := rfl
@[simp ↓] theorem kErrAt_1 {f : Str} {v : MV} : kErrAt K a dd D f q (.err a (dd.getD a) D [f] [v]) h = (ErrF K D ∧ PySem.W.findIn K (.ref D) f = some none ∧ q v h) := by
  unfold kErrAt
  rw [errK_s]
  simp [List.lookup]
end
end MM
end
section
set_option maxHeartbeats 4000000
namespace MM
open PySem PySem.Spec PyProof.Rows L2
/-! ### own errors over IndexError -/
abbrev ixTail : List Value := [.type "IndexError", .type "LookupError", .type "Exception", .type "BaseException", .type "object"]
structure OexI (K : PySem.W.Frag) (C : Addr) : Prop where
  cls : ∃ nm q N bs bm sn sub ab col dd k0 k1 k2 k3 k5, K.lookup C = some (excClassObj nm q C N bs bm true sn sub ab col dd k0 k1 k2 k3 k5 "IndexError.__new__") ∧ PySem.W.excTail ixTail bm = true
  (set : PySem.W.findIn K (.ref C) "__setattr__" = some (some (.builtin "object.__setattr__"))) (exc : PySem.W.subIn K (.ref C) (.type "BaseException") = some true) (typ : PySem.W.typeIn K (.ref C) = some (.type "type")) (kp : PySem.W.keepIn K (.ref C) = true)
def oexIB (x : Str) : FaM := fun K => ownErrB (PySem.W.excTail ixTail) "IndexError.__new__" K (He.ga K x) && errB K (He.ga K x)
theorem oexI_ok {K : PySem.W.Frag} {x : Str} (c : oexIB x K = true) : OexI K (He.ga K x) := by
  obtain ⟨c1, c⟩ := He.ba c
  obtain ⟨c2, c⟩ := He.ba c
  obtain ⟨c3, c⟩ := He.ba c
  obtain ⟨c4, c5⟩ := He.ba c
  exact ⟨ownErr_ok c1, He.eqO_ok c2, of_decide_eq_true c3, of_decide_eq_true c4, c5⟩
section
variable {X : Cx} {pins : List (Addr × Obj)} {σ : L2.St} {H : Hp} {s : Shared} {a C dx : Addr} {f : Str} {y : V} {u : Value} {Q : Unit → Shared → Prop} {E : Value → Shared → Prop} {A : Around}
/-- the object of an exception that is being made -/
abbrev excAt (C t : Addr) (d : Option Addr) : Obj := { cls := .ref C, dict := d, data := .fields #[.ref t, .none, .none, .none, .bool false, .none] }
/-- such an object has come to its dict, at dx -/
theorem exc_dict {h' : Heap} {t' : Nat} {t1 : Addr} (I : Inv X pins σ H s) (e : H a = some (exo a C none)) (past : s.heap.objs.size ≤ dx) (ry : RelV y u) (keep : ∀ b o, b ≠ a → s.heap.get? b = some o → h'.get? b = some o)
    (hx : h'.get? a = some (excAt C t1 (some dx))) (hn : h'.Ns1 dx (fun z => if z = f then some u else none)) : Inv X pins σ (upd (upd H dx (exd dx [(f, y)])) a (exo a C (some dx))) { s with heap := h', toks := t' } := by
  have new : H dx = none := I.hok.fresh past
  -- what is tracked elsewhere stands as it stood
  have same : ∀ {b : Addr} {z : HO}, H b = some z → exo a C none ≠ z → upd (upd H dx (exd dx [(f, y)])) a (exo a C (some dx)) b = some z := fun q ne => by
    rw [upd_ne (at_ne e q ne), upd_ne (ne_of_none q new)]
    exact q
  have off : ∀ {b : Addr}, H b = none → b ≠ a := fun n z => by
    rw [z, e] at n
    cases n
  refine I.un (t' := t') ⟨fun b o q n _ _ => keep b o (off n) q, fun b o q n _ _ => ⟨o.slots, keep b o (off n) q⟩, fun b o q n _ => ?_, fun b o q _ => ?_, fun b xs q => same q exo_tup, fun b o v q => same q exo_frz, fun b ps q => ⟨#[], ?_⟩⟩ fun b o q => ?_
  · rw [upd_ne (off n), upd_ne (Nat.ne_of_lt (Nat.lt_of_lt_of_le (Heap.lt_size q) past))]
    exact n
  · by_cases here : b = a
    · exact ⟨_, here ▸ hx⟩
    · exact ⟨o, keep b o here q⟩
  · rw [same q exo_tbl, Array.append_empty]
  · by_cases here : b = a
    · subst here; rw [upd_same] at q; cases q
      exact exo_ok hx
    by_cases there : b = dx
    · subst there; rw [upd_ne here, upd_same] at q; cases q
      exact exd_ok hn (relO_put (fs := []) ry (fun _ => trivial))
    rw [upd_ne here, upd_ne there] at q
    refine (I.hok b o q).stay (fun c v hc z => keep c v ?_ z) (fun c hc => same hc exo_own) fun c xs hc => same hc exo_tup
    rcases hc with rfl | hc
    · exact here
    · exact at_ne e hc exo_own
/-- self.f = u in such an object -/
theorem ostI (T : OexI X.K C) (I : Inv X pins σ H s) (e : H a = some (exo a C none)) (hno : PySem.W.findIn X.K (.ref C) f = some none)
    (ry : RelV y u) (h : ∀ dx s', H dx = none → dx ≠ a → Inv X pins σ (upd (upd H dx (exd dx [(f, y)])) a (exo a C (some dx))) s' → Q () s') : wpAny (model X.prog X.w) A (setAttr (.ref a) f u) Q E s := by
  obtain ⟨nm, qn, N, bs, bm, sn, sub, ab, col, _, _, _, _, _, _, hC, hbm⟩ := T.cls
  have ⟨t1, ho⟩ := exo_at I.hok e
  have cls : PySem.W.clsIn X.K C = some ⟨nm, bs, .ref C :: bm, N, qn, true, sn, sub, ab, col, false⟩ := by simp only [PySem.W.clsIn, hC, excClassObj]
  have L := (PySem.W.looks_clsIn I.kIn cls : PySem.W.Looks (model X.prog X.w) _ _ _)
  have inst : PySem.W.InstAt s.heap a (excAt C t1 none) C none := ⟨ho, rfl, rfl, trivial⟩
  have ne : a ≠ s.heap.objs.size := Nat.ne_of_lt (Heap.lt_size ho)
  refine PySem.W.set_plain I.kIn inst T.set (PySem.W.osa_openX PySem.F.store_IndexError I.kIn inst (r := none) ?_ ?_ fun b => ?_)
  · simp [PySem.W.excOver, cls, hbm]
  · simp [PySem.W.takerIn, hno]
  cases s with | mk hp g d tk os =>
  show wpAny _ _ (Builtin.ObjectAttr.storeInOwnDict (.ref a) (.ref C) _ f u b) _ _ _
  unfold Builtin.ObjectAttr.storeInOwnDict Builtin.ObjectAttr.ownDictForStores
  repeat (first | with_reducible refine PySem.HandSPX.store_in_new ?_ ?_ | with_reducible refine wpAny_loadPart_at ho ?_ | with_reducible refine L.at ?_ | wp_step)
  · exact ⟨_, #[], _, (Heap.get?_update_ne _ _ _ _ ne.symm).trans (Heap.get?_push_at rfl rfl), rfl, nofun, fun _ => rfl⟩
  · intro h' tk' made but
    have got := Heap.get?_push_of_some ({ cls := .type "dict", data := .dict #[] } : Obj) ho
    exact h hp.objs.size _ (I.hok.fresh (Nat.le_refl _)) ne.symm (exc_dict (t' := tk') I e (Nat.le_refl _) ry (fun b o off here => (but.2 b (Nat.ne_of_lt (Heap.lt_size here))).trans ((Heap.get?_update_ne _ _ _ _ off).trans (Heap.get?_push_of_some _ here)))
      ((but.2 a ne).trans (Heap.get?_update_self _ got rfl)) made)
end
def tOstI (K : PySem.W.Frag) (f : Str) (to te : TE) : TS := fun D σ H => te σ H fun y H1 => to σ H1 fun x H2 => ∃ a C : Addr, x = .ref a ∧ OexI K C ∧ PySem.W.findIn K (.ref C) f = some none ∧
  H2 a = some (exo a C none) ∧ ∀ dx, H2 dx = none → dx ≠ a → D.nx σ (upd (upd H2 dx (exd dx [(f, y)])) a (exo a C (some dx)))
theorem ps_ostI {X : Cx} {o e : Expr} {to te : TE} {f : Str} {p' pos : Pos} (ho : PE X o to) (he : PE X e te) (hs : swapsWith e (some (.Attribute o f p')) pos.line X.env = pure false := by rfl) : PS X (.Assign [.Attribute o f p'] e pos) (tOstI X.K f to te) := by
  refine ⟨fun pins s σ H D I z => plainObj_wpAny_Assign_Attribute (thn (he.run pins s σ H _ I z) fun v s1 ⟨y, H1, J, r, z⟩ => thn (ho.run pins s1 σ H1 _ J z) fun u s2 ⟨x, H2, J2, rx, a, C, ex, T, no, at_, z⟩ => ?_) hs⟩
  subst ex
  cases rx
  exact ostI T J2 at_ no r fun dx s' n ne J3 => ⟨σ, _, J3, z dx n ne⟩
structure ErrTI (K : PySem.W.Frag) (mg : Str → Option Value) (x qual F : Str) (C : Addr) (st : Stmt) : Prop where
  oex : OexI K C
  no : PySem.W.findIn K (.ref C) F = some none
  g : mg x = some (.ref C)
  d : DfM K C "__init__" qual st []
structure ErrSI (qual F : Str) (st : Stmt) : Prop where
  sc : FnScope ["self", F] ["self", F] (defScope st)
  bd : ∀ (P : Program) (w : World) (K : PySem.W.Frag) (mg : Str → Option Value) (base : Heap) (f : Addr) (cdv : Value) (A : Around) (outer : List PySem.Env) (s : Shared) (H : Hp) (E : XK),
    PSs (cxOf (L2N.CX P w) P w K mg base ["self", F] qual (defScope st) f cdv A outer s H E) (defBody st) (tOstI K F (tVar 0) (tVar 1))
  bind : BindN "__init__" qual st ["self", F]
theorem pmkI {X : Cx} {p pos : Pos} {e : Expr} {es : List Expr} {ta : TA} {CX : CXT} {x : Str} {C fI : Addr} {k : Nat} {fd : FuncData} {ps : List Str} {sp : Sp} {ds : List Value} {dvs : List V} (T : OexI X.K C) (iC : PySem.W.findIn X.K (.ref C) "__init__" = some (some (.ref fI))) (tI : PySem.W.typeIn X.K (.ref fI) = some (.type "function"))
    (F1 : FnOk X.prog X.w X.K X.mg X.base CX k fI fd ps sp) (hr : Room (k + 1) X.A) (hb : Binds X.K fd ps ds) (hd : Vals dvs ds) (hx : Passes CX X (fun _ _ _ => False)) (hg : Gl X x) (hm : X.mg x = some (.ref C)) (ha : PA X (e :: es) ta) (hdb : (x == ("__debug__" : Str)) = false := by decide)
    (he : starEach (e :: es) X.env = (false, eval e X.env) :: starEach es X.env := by rfl) (hpl : (backTo pos (starEach es X.env)).any (·.1) = false := by rfl) : L2N.PMk X (.Call (.Name x p) (e :: es) [] pos) (tMkO C sp dvs ta) :=
  let ⟨nm, q, N, bs, bm, sn, sub, ab, col, dd, k0, k1, k2, k3, k5, hC, hbm⟩ := T.cls
  pmkB PySem.F.excBase_IndexError ⟨nm, q, N, bs, bm, sn, sub, ab, col, dd, k0, k1, k2, k3, k5, hC, fun Y => PySem.W.excTail_contains Y bm hbm⟩ T.exc T.typ T.kp iC tI F1 hr hb hd hx hg hm ha hdb he hpl
theorem ErrTI.m {P : Program} {w : World} {K : PySem.W.Frag} {mg : Str → Option Value} {base : Heap} {x qual F : Str} {C : Addr} {st : Stmt} (T : ErrTI K mg x qual F C st) (S : ErrSI qual F st) : ErrM P w K mg base x F C := by
  intro X k on hk hcalm e we p pos pos2 he hg hdb hst hpl
  obtain ⟨rfl, rfl, rfl, rfl, rfl, r, gu⟩ := on.mono hk
  obtain ⟨fI, fd, hm, D⟩ := T.d
  have F1 : FnOk X.prog X.w X.K X.mg X.base (L2N.CX X.prog X.w) 1 fI fd ["self", F] (spErr X.K C F) := by
    refine D.ok S.sc (fun vs H Q E h => ?_) (fun cdv A outer s H vs Q E hr h => ⟨_, S.bd _ _ _ _ _ fI cdv A outer s H E, ?_⟩)
    · obtain ⟨a, y, rfl, _⟩ := h
      rfl
    · obtain ⟨a, y, rfl, ea, k⟩ := h
      exact ⟨y, rfl, .ref a, rfl, a, C, rfl, T.oex, T.no, ea, k⟩
  have M := fun ta ha => pmkI (X := X) (p := p) (pos := pos) (k := 1) (ta := ta) (sp := spErr X.K C F) T.oex hm.at_ (by
      have := hm.fn
      unfold PySem.W.isFn at this
      exact beq_iff_eq.mp this) F1 r (D.bindsN S.bind) .nil passN hg T.g ha hdb hst hpl
  refine ⟨fun pins s σ H D I ⟨ρ, h, d, sr, hr, tk, wd, _⟩ => ?_⟩
  refine (L2N.ps_raise (W := LWs X.K H d.ex) hcalm tk (M _ (sa_cons he sa_nil hst))).run pins s σ H D I ?_
  refine ⟨ρ, h, fun xs h1 => match xs with | [y] => d.ex ⟨.ref C, some [(F, y)]⟩ ρ h1 | _ => False, d.at_ ρ, sr, hr, tks_at tk ρ, wd, ?_⟩
  intro mvs vs h1 H1 t1 r1 v1 w1
  match mvs, v1, w1 with
  | [y], v1, w1 =>
    obtain ⟨v, rfl, vy⟩ := v1.one
    refine ⟨by simp, fun a na => ⟨a, v, rfl, upd_same, fun dx nd ne => ⟨rfl, dx, [(F, v)], upd_same, by rw [upd_ne ne, upd_same], ?_, ?_⟩⟩⟩
    · rw [upd_ne ne] at nd
      exact nd
    · rw [upd_ne ne] at nd
      rw [upd_del na]
      have t2 : TK H1 (upd H1 dx (.xd [(F, v)])) := TK.new nd
      exact ⟨⟨.ref C, some [(F, y)]⟩, ρ, h1, t1.trans t2, sr.tk (t1.trans t2), r1.new' nd, ⟨rfl, dx, _, rfl, upd_same, rfl, VRs_cons.mpr ⟨_, _, rfl, VR.tk t2 _ vy, by simp⟩⟩, w1⟩
end MM
end
section
namespace PySem
open Sem (wp)
namespace F
theorem slx_ga : Slot "slice" "__getattribute__" "slice.__getattribute__" := by
  refine Slot.of (owner := "slice") (n := "__getattribute__") ?_ (by decide +kernel) (by decide +kernel) (by decide +kernel) ?_ ?_
  · rw [typeLookup_type, builtinLookup_eq_fast]; kernel_rfl
  · first | (left; decide +kernel) | (right; decide +kernel)
  · rw [isSubtype_type]; kernel_rfl
theorem slx_entry : entryFor table "slice.__getattribute__" = some Builtin.«object.__getattribute__» := entryFor_alias (id' := "object.__getattribute__") (by kernel_rfl) (by first | rfl | decide +kernel) (by decide +kernel) (by kernel_rfl)
theorem slx_own : Manifest.owners.lookup (String.ofList ['e', 'c', 'i', 'l', 's'].reverse) = some Manifest.sig_slice := by kernel_rfl
theorem slx_args (a b : Value) : argsOk "slice.__getattribute__" ⟨[a, b], []⟩ := by
  unfold argsOk; rw [signature?_of (id := "slice.__getattribute__") (n := ['_', '_', 'e', 't', 'u', 'b', 'i', 'r', 't', 't', 'a', 't', 'e', 'g', '_', '_']) (o := ['e', 'c', 'i', 'l', 's']) (by kernel_rfl) slx_own]; kernel_rfl
theorem slx_class : typeLookup (.type "slice") "__class__" = pure (some (.builtin "object.__class__")) := by rw [typeLookup_type, builtinLookup_eq_fast]; kernel_rfl
theorem slx_owner : isSubtype (.type "slice") (.type (".".intercalate ("object.__class__".cutAt '.').dropLast)) = pure true := (congrArg (isSubtype (.type "slice") <| .type ·) owner_object_class).trans (by rw [isSubtype_type]; kernel_rfl)
end F
section
variable {prog : Program} {w : World} {A : Around} {E : Value → Shared → Prop} {h : Heap} {g : Array GenState} {d : Drawn} {t : Nat} {os : OsState} {a : Addr} {o : Obj}
/-- the data descriptor's own get: the object's type -/
theorem class_get_slx {R : Result → Shared → Prop} (hx : h.get? a = some o) (hc : o.cls = .type "slice") (hq : R (.ok (.ret (.type "slice"))) ⟨h, g, d, t, os⟩) :
    codeAny (model prog w) A (.call (.builtin "getset_descriptor.__get__") ⟨[.builtin "object.__class__", .ref a, .type "slice"], []⟩) R ⟨h, g, d, t, os⟩ := by
  have obj : (⟨h, g, d, t, os⟩ : Shared).TypeIs (.ref a) "slice" := ⟨o, hx, hc⟩
  have des : (⟨h, g, d, t, os⟩ : Shared).TypeIs (.builtin "object.__class__") "getset_descriptor" := F.typeOf_object_class
  have own := F.slx_owner
  refine codeAny_call_builtin F.slot_gs_get.plain F.entry_gs_get (F.slot_gs_get.check _ _ _ _ _ _ _ _ des (F.args_gs_get _ _ _) ?_)
  repeat any_goals (first | wp_step | assumption)
  refine ⟨(Code.quiet_builtin _ (by decide +kernel)), (codeAny_builtin F.entry_object_class ?_)⟩
  repeat any_goals (first | wp_step | assumption)
/-- x.__class__ of a slice object, by its slot -/
theorem class_call_slx {tk : Tok} {R : Result → Shared → Prop} (hx : h.get? a = some o) (hc : o.cls = .type "slice") (hq : R (.ok (.ret (.type "slice"))) ⟨h, g, d, t, os⟩) :
    codeAny (model prog w) A (.call (.builtin "slice.__getattribute__") ⟨[.ref a, .str "__class__" tk], []⟩) R ⟨h, g, d, t, os⟩ := by
  have obj : (⟨h, g, d, t, os⟩ : Shared).TypeIs (.ref a) "slice" := ⟨o, hx, hc⟩
  have des : (⟨h, g, d, t, os⟩ : Shared).TypeIs (.builtin "object.__class__") "getset_descriptor" := F.typeOf_object_class
  have c1 := F.slx_class; have c2 := F.typeOf_object_class; have c3 := F.slot_gs_get.lookup; have c4 := F.slot_gs_set.lookup
  refine codeAny_call_builtin F.slx_ga.plain F.slx_entry (F.slx_ga.check _ _ _ _ _ _ _ _ obj (F.slx_args _ _) ?_)
  repeat any_goals (first | wp_step | assumption)
  refine class_get_slx hx hc ?_
  repeat any_goals (first | wp_step | assumption)
theorem class_by_slx {tk : Tok} {Q : Value → Shared → Prop} (hx : h.get? a = some o) (hc : o.cls = .type "slice") (hq : Q (.type "slice") ⟨h, g, d, t, os⟩) : wpAny (model prog w) A (getAttrBy (.ref a) (.str "__class__" tk) false) Q E ⟨h, g, d, t, os⟩ := by
  have obj : (⟨h, g, d, t, os⟩ : Shared).TypeIs (.ref a) "slice" := ⟨o, hx, hc⟩
  have c1 := F.slx_ga.lookup; have c2 := F.slx_ga.bind (.ref a)
  repeat any_goals (first | wp_step | assumption)
  refine class_call_slx hx hc ?_
  repeat any_goals (first | wp_step | assumption)
theorem class_attr_slx {Q : Option Value → Shared → Prop} (hx : h.get? a = some o) (hc : o.cls = .type "slice") (hq : Q (some (.type "slice")) ⟨h, g, d, t + 1, os⟩) : wpAny (model prog w) A (getAttr? (.ref a) "__class__") Q E ⟨h, g, d, t, os⟩ := by
  unfold getAttr? getAttrBy?
  repeat any_goals (first | with_reducible apply class_by_slx hx hc | wp_step | assumption)
end
namespace W
theorem kitx_slx {K : Frag} {a : Addr} : KitX K (.ref a) (.type "slice") (KitAt a "slice") := kitx_of kitAt_ty (fun {_ _ _ _ _ s} p k => by obtain ⟨h, g, d, t, os⟩ := s; obtain ⟨o, h1, h2⟩ := p; exact class_attr_slx h1 h2 k)
end W
end PySem
end
section
namespace MM
open PySem PySem.Spec PyProof.Rows L2
/-! ### slice objects -/
theorem slc_at {P : Program} {w : World} {H : Hp} {h : Heap} {p : Addr} {a b c : Option Int} (hok : HOk P w H h) (e : H p = some (slcO p a b c)) : ∃ vl vu vs, h.IsSliceOf p vl vu vs ∧ IsPart vl a ∧ IsPart vu b ∧ IsPart vs c := by
  have x : ObjOk P w H h p (.ext fun h => ∃ vl vu vs, h.IsSliceOf p vl vu vs ∧ IsPart vl a ∧ IsPart vu b ∧ IsPart vs c) := hok p _ e
  exact x.1
theorem slc_ok {P : Program} {w : World} {H : Hp} {h : Heap} {p : Addr} {a b c : Option Int} {vl vu vs : Value} (hs : h.IsSliceOf p vl vu vs) (pl : IsPart vl a) (pu : IsPart vu b) (ps : IsPart vs c) : ObjOk P w H h p (slcO p a b c) := by
  obtain ⟨o, ho, hc, hd⟩ := hs
  exact ⟨⟨vl, vu, vs, ⟨o, ho, hc, hd⟩, pl, pu, ps⟩, ⟨o, ho⟩, fun h1 h2 z k => by
    obtain ⟨vl, vu, vs, ⟨o, ho, hc, hd⟩, pl, pu, ps⟩ := z
    exact ⟨vl, vu, vs, ⟨o, k _ ho, hc, hd⟩, pl, pu, ps⟩⟩
/-! ### isinstance, of slices too -/
def spIsiS (T : Value → Value → Option Bool) : Spec := fun args h q e => match args with
  | [.slc _ _ _, .ty n] => n ∈ names5 ∧ q (.bl false) h
  | _ => spIsi T args h q e
section
variable {T : Value → Value → Option Bool} {h : MH} {q : QV} {e : QX} {n : String}
@[simp ↓] theorem spIsiS_slc {a b c : Option Int} : spIsiS T [.slc a b c, .ty n] h q e = (n ∈ names5 ∧ q (.bl false) h) := rfl
@[simp ↓] theorem spIsiS_non : spIsiS T [.non, .ty n] h q e = spIsi T [.non, .ty n] h q e := rfl
@[simp ↓] theorem spIsiS_bl {x : Bool} : spIsiS T [.bl x, .ty n] h q e = spIsi T [.bl x, .ty n] h q e := rfl
@[simp ↓] theorem spIsiS_int {x : Int} : spIsiS T [.int x, .ty n] h q e = spIsi T [.int x, .ty n] h q e := rfl
@[simp ↓] theorem spIsiS_str {x : Str} : spIsiS T [.str x, .ty n] h q e = spIsi T [.str x, .ty n] h q e := rfl
@[simp ↓] theorem spIsiS_tup {x : List MV} : spIsiS T [.tup x, .ty n] h q e = spIsi T [.tup x, .ty n] h q e := rfl
@[simp ↓] theorem spIsiS_lis {x : List MV} : spIsiS T [.lis x, .ty n] h q e = spIsi T [.lis x, .ty n] h q e := rfl
@[simp ↓] theorem spIsiS_ref {x : Addr} : spIsiS T [.ref x, .ty n] h q e = spIsi T [.ref x, .ty n] h q e := rfl
@[simp ↓] theorem spIsiS_obj {x : Addr} {ns : List Str} {xs : List MV} : spIsiS T [.obj x ns xs, .ty n] h q e = spIsi T [.obj x ns xs, .ty n] h q e := rfl
end
theorem kit_slice : (names5.all fun n => decide (kitB "slice" n = some false)) = true := by decide +kernel
theorem cm_isiS {X : Cx} {T : Value → Value → Option Bool} (ok : IsiOk X.K T) : CallM X (.builtin "isinstance") (spIsiS T) := by
  intro pins s σ H ρ h args vs us q e Q I sr hr tk va vv φ k
  unfold spIsiS at φ
  split at φ
  · rename_i a b c n
    obtain ⟨hn, z⟩ := φ
    obtain ⟨v, u, e1, r1, r2⟩ := va.two
    subst e1
    obtain ⟨p, rfl, ep⟩ := VR_slc.mp r1
    simp at r2
    subst r2
    obtain ⟨u1, u2, rfl, q1, q2⟩ := vals2 vv
    cases (show u1 = Value.ref p from q1)
    cases (show u2 = Value.type n from q2)
    obtain ⟨vl, vu, vs, ⟨o, ho, hc, hd⟩, _⟩ := slc_at I.hok ep
    have hk : PySem.W.kitOne X.K (.type "slice") (.type n) = some false := kit_ty (of_decide_eq_true (List.all_eq_true.mp kit_slice n hn))
    exact PySem.W.kia_one PySem.W.kitx_slx I.kIn ⟨o, ho, hc⟩ hk (fun z => nomatch z) fun tk => ⟨.bl false, H, I.tok tk, rfl, k _ _ h H (TK.refl H) hr (by simp) z⟩
  · exact cm_isi ok pins s σ H ρ h args vs us q e Q I sr hr tk va vv φ k
/-! ### tuples, sliced in any way -/
def adjT (lo hi st : Option Int) (n : Nat) : Int × Int := Builtin.Slice.sliceAdjust lo hi (st.getD 1) (n : Int)
def cntT (lo hi st : Option Int) (n : Nat) : Nat := Builtin.Slice.slicePlaces (adjT lo hi st n).1 (adjT lo hi st n).2 (st.getD 1)
/-- the items that a tuple's slice has -/
def slT {α : Type} (xs : List α) (lo hi st : Option Int) : List α := (List.range (cntT lo hi st xs.length)).filterMap fun (m : Nat) => xs[((adjT lo hi st xs.length).1 + (m : Int) * st.getD 1).toNat]?
theorem slT_mem {α : Type} {xs : List α} {lo hi st : Option Int} {y : α} (m : y ∈ slT xs lo hi st) : y ∈ xs := by
  unfold slT at m
  obtain ⟨i, _, e⟩ := List.mem_filterMap.mp m
  exact List.mem_of_getElem? e
section
variable {prog : Program} {w : World} {A : Around} {E : Value → Shared → Prop} {s : Shared}
theorem applied_all {sl : Addr} {vl vu vs : Value} {lo hi st : Option Int} {n : Nat} {Q : Int × Int × Nat → Shared → Prop} (hs : s.heap.IsSliceOf sl vl vu vs) (pl : IsPart vl lo) (pu : IsPart vu hi) (ps : IsPart vs st) (h0 : st ≠ some 0)
    (h : Q ((adjT lo hi st n).1, st.getD 1, cntT lo hi st n) s) : wpAny (model prog w) A (Builtin.Slice.sliceApplied (.ref sl) (pure (n : Int))) Q E s := by
  have ⟨o, here, _, dat⟩ := hs
  have step : (st.getD 1 == 0) = false := by
    rcases st with _ | c
    · rfl
    · exact beq_eq_false_iff_ne.mpr fun z => h0 (congrArg some z)
  unfold Builtin.Slice.sliceApplied
  rw [Builtin.Slice.sliceFields]
  refine wpAny_bind (wpAny_bind (wpAny_field here dat (x := vl) rfl (wpAny_bind (wpAny_field here dat (x := vu) rfl (wpAny_bind (wpAny_field here dat (x := vs) rfl (wpAny_pure (wpAny_bind (HT.slicePart_ ps ?_)))))))))
  show wpAny _ _ (if (st.getD 1 == 0) = true then _ else _) _ _ s
  rw [step, if_neg Bool.false_ne_true]
  exact wpAny_bind (HT.slicePart_ pl (wpAny_bind (HT.slicePart_ pu (wpAny_bind (wpAny_pure (wpAny_pure h))))))
theorem getItem_tup_any {t sl : Addr} {items : Array Value} {vl vu vs : Value} {lo hi st : Option Int} {Q : Value → Shared → Prop} (ht : IsTup s.heap t items) (hs : s.heap.IsSliceOf sl vl vu vs) (pl : IsPart vl lo) (pu : IsPart vu hi) (ps : IsPart vs st) (h0 : st ≠ some 0)
    (hw : (adjT lo hi st items.size).1 = 0 → st.getD 1 = 1 → cntT lo hi st items.size = items.size → Q (.ref t) s)
    (h : Q (.ref s.heap.objs.size) { s with heap := s.heap.push { cls := .type "tuple", data := .seq (slT items.toList lo hi st).toArray } })
    (hsz : (slT items.toList lo hi st).length ≤ sizeLine) : wpAny (model prog w) A (getItem (.ref t) (.ref sl)) Q E s := by
  have kind : s.TypeIs (.ref sl) "slice" := have ⟨o, here, cls, _⟩ := hs; ⟨o, here, cls⟩
  have picked : ((List.range (cntT lo hi st items.size)).filterMap fun (m : Nat) => items[((adjT lo hi st items.size).1 + (m : Int) * st.getD 1).toNat]?) = slT items.toList lo hi st := by simp [slT]
  have fits : sizeOk (.seq (slT items.toList lo hi st).toArray) := Nat.le_trans (Nat.le_of_eq (List.size_toArray ..)) hsz
  unfold getItem
  refine wpAny_holding (wpAny_bind (wpAny_sequenceKey ht.typeIs (by decide) (wpAny_bind (wpAny_callSpecial?_slot (name := Str.ofString "__getitem__") ht.typeIs PyProof.Rows.slot_tuple_getitem
    (wpAny_call_entry PyProof.Rows.slot_tuple_getitem ht.typeIs PyProof.Rows.entry_tuple_getitem ?_ (PyProof.Rows.args_tuple_getitem _ _))))))
  show wpAny _ _ (Builtin.Tuple.tupleItemsOf _ >>= _) _ _ s
  refine wpAny_bind (PyProof.Rows.tupleItemsOf_ ht (wpAny_bind (wpAny_typeOf kind ?_)))
  rw [if_pos (by decide)]
  refine wpAny_bind (applied_all hs pl pu ps h0 ?_)
  show wpAny _ _ (if ((adjT lo hi st items.size).1 == 0 && st.getD 1 == 1 && cntT lo hi st items.size == items.size) = true then _ else _) _ _ s
  split
  next c =>
    obtain ⟨c, c3⟩ := Bool.and_eq_true_iff.mp c
    obtain ⟨c1, c2⟩ := Bool.and_eq_true_iff.mp c
    have same := hw (eq_of_beq c1) (eq_of_beq c2) (eq_of_beq c3)
    refine wpAny_bind (wpAny_bind (m := typeOf (.ref t)) (wpAny_typeOf ht.typeIs (wpAny_pure ?_)))
    rw [beq_self_eq_true, if_pos rfl]
    exact wpAny_bind (wpAny_rule (wpAny_pure ⟨_, rfl, wpAny_pure same⟩))
  next =>
    rw [picked]
    exact wpAny_bind (m := Builtin.Tuple.tupleExact _) (wpAny_newObj_type (wpAny_pure ⟨_, rfl, wpAny_pure h⟩) fits)
end
/-! ### parts that are ints or None -/
section
variable {X : Cx}
def oVal (w : WE) : WO := fun ρ h q e => w ρ h (fun x h1 => match x with | .int i => q (some i) h1 | .non => q none h1 | _ => False) e
def kOVal (q : Option Int → MH → Prop) : QV := fun x h1 => match x with | .int i => q (some i) h1 | .non => q none h1 | _ => False
@[simp ↓] theorem oVal_s {w : WE} {ρ : En} {h : MH} {q : Option Int → MH → Prop} {e : QX} : oVal w ρ h q e = w ρ h (kOVal q) e := rfl
@[simp ↓] theorem kOVal_i {q : Option Int → MH → Prop} {i : Int} {h : MH} : kOVal q (.int i) h = q (some i) h := rfl
@[simp ↓] theorem kOVal_n {q : Option Int → MH → Prop} {h : MH} : kOVal q .non h = q none h := rfl
theorem so_val {a : Expr} {wa : WE} (ha : SE X a wa) : SO X (some a) (oVal wa) := by
  refine ⟨fun pins s σ H Q I ⟨ρ, h, q, e, sr, hr, tk, w, k⟩ => ?_⟩
  rw [evalPart_some]
  have hE : LE X wa σ H fun v H1 => ∃ x h1, TK H H1 ∧ HR X.K h1 H1 ∧ VR X.K H1 x v ∧ kOVal q x h1 := ⟨ρ, h, _, e, sr, hr, tk, w, fun x v h1 H1 t1 r1 v1 w1 => ⟨x, h1, t1, r1, v1, w1⟩⟩
  refine thn (ha.run pins s σ H _ I hE) fun u s1 ⟨v, H1, I1, r1, x, h1, t1, hr1, vx, w1⟩ => ?_
  cases x <;> first | exact w1.elim | skip
  · simp at vx
    subst vx
    cases (show u = Value.none from r1)
    exact ⟨none, H1, I1, .none, k none h1 H1 t1 hr1 w1⟩
  · rename_i i
    simp at vx
    subst vx
    obtain ⟨t, rfl⟩ := r1
    exact ⟨some i, H1, I1, .int i t, k (some i) h1 H1 t1 hr1 w1⟩
end
theorem vals_slT {vs : List V} {us : List Value} (r : Vals vs us) (lo hi st : Option Int) : Vals (slT vs lo hi st) (slT us lo hi st) := by
  unfold slT
  rw [r.length]
  have key : ∀ l : List Nat, Vals (l.filterMap fun (m : Nat) => vs[((adjT lo hi st us.length).1 + (m : Int) * st.getD 1).toNat]?) (l.filterMap fun (m : Nat) => us[((adjT lo hi st us.length).1 + (m : Int) * st.getD 1).toNat]?) := fun l => by
    have := vals_pick r (l.map fun (m : Nat) => ((adjT lo hi st us.length).1 + (m : Int) * st.getD 1).toNat)
    rw [List.filterMap_map, List.filterMap_map] at this
    exact this
  exact key _
theorem VRs.slT {K : PySem.W.Frag} {H : Hp} {xs : List MV} {vs : List V} (r : VRs K H xs vs) (lo hi st : Option Int) : VRs K H (slT xs lo hi st) (slT vs lo hi st) := by
  unfold MM.slT
  rw [r.length]
  have := r.pick ((List.range (cntT lo hi st vs.length)).map fun (m : Nat) => ((adjT lo hi st vs.length).1 + (m : Int) * st.getD 1).toNat)
  rw [List.filterMap_map, List.filterMap_map] at this
  exact this
theorem slT_whole {α : Type} {xs : List α} {lo hi st : Option Int} (h1 : (adjT lo hi st xs.length).1 = 0) (h2 : st.getD 1 = 1) (h3 : cntT lo hi st xs.length = xs.length) : slT xs lo hi st = xs := by
  unfold slT
  rw [h1, h2, h3]
  have e : (fun (m : Nat) => xs[((0 : Int) + (m : Int) * 1).toNat]?) = fun m => xs[m]? := by
    funext m
    have : ((0 : Int) + (m : Int) * 1).toNat = m := by omega
    rw [this]
  rw [e]
  exact fm_all xs
/-- a tuple at p, sliced by the slice object at sl -/
theorem tup_slice {X : Cx} {pins : List (Addr × Obj)} {s : Shared} {σ : L2.St} {H : Hp} {p sl : Addr} {vs : List V} {vl vu vst : Value} {lo hi st : Option Int} {Q : VK} (I : Inv X pins σ H s) (hx : SqT X.K H p vs) (hs : s.heap.IsSliceOf sl vl vu vst) (pl : IsPart vl lo) (pu : IsPart vu hi) (ps : IsPart vst st)
    (h0 : st ≠ some 0) (hz : (slT vs lo hi st).length ≤ sizeLine) (q1 : slT vs lo hi st = vs → Q (.ref p) H) (q2 : ∀ a, H a = none → Q (.ref a) (upd H a (.tup (slT vs lo hi st)))) : wpAny (model X.prog X.w) X.A (getItem (.ref p) (.ref sl)) (EP X pins σ Q) X.xe s := by
  obtain ⟨its, r, ht, hzz⟩ := I.tuple hx
  have hlen : its.toArray.size = vs.length := by rw [List.size_toArray]; exact r.length.symm
  refine getItem_tup_any ht hs pl pu ps h0 (fun a1 a2 a3 => ?_) ?_ ?_
  · rw [hlen] at a1 a3
    exact ⟨.ref p, H, I, rfl, q1 (slT_whole a1 a2 a3)⟩
  · refine ⟨.ref s.heap.objs.size, _, I.laid (t' := s.toks) (o := .tup (slT vs lo hi st)) (fun b ob q => Heap.get?_push_of_some _ q) (Nat.le_refl _) ?_, rfl, q2 _ (I.hok.fresh (Nat.le_refl _))⟩
    exact ⟨hz, _, vals_slT r lo hi st, IsTup.new _ _⟩
  · show (slT its lo hi st).length ≤ sizeLine
    rw [← (vals_slT r lo hi st).length]
    exact hz
/-! ### t[lo:hi:st], t a tuple -/
def kT3 (l u s : Option Int) (q : QV) : QV := fun x h => match x with | .tup xs => s ≠ some 0 ∧ (slT xs l u s).length ≤ sizeLine ∧ q (.tup (slT xs l u s)) h | _ => False
@[simp ↓] theorem kT3_s {l u s : Option Int} {q : QV} {xs : List MV} {h : MH} : kT3 l u s q (.tup xs) h = (s ≠ some 0 ∧ (slT xs l u s).length ≤ sizeLine ∧ q (.tup (slT xs l u s)) h) := rfl
def kTc (x : MV) (l u : Option Int) (q : QV) : Option Int → MH → Prop := fun s h => kT3 l u s q x h
@[simp ↓] theorem kTc_s {x : MV} {l u s : Option Int} {q : QV} {h : MH} : kTc x l u q s h = kT3 l u s q x h := rfl
def kTb (x : MV) (l : Option Int) (st : WO) (ρ : En) (q : QV) (e : QX) : Option Int → MH → Prop := fun u h => st ρ h (kTc x l u q) e
@[simp ↓] theorem kTb_s {x : MV} {l u : Option Int} {st : WO} {ρ : En} {h : MH} {q : QV} {e : QX} : kTb x l st ρ q e u h = st ρ h (kTc x l u q) e := rfl
def kTa (x : MV) (hi st : WO) (ρ : En) (q : QV) (e : QX) : Option Int → MH → Prop := fun l h => hi ρ h (kTb x l st ρ q e) e
@[simp ↓] theorem kTa_s {x : MV} {l : Option Int} {hi st : WO} {ρ : En} {h : MH} {q : QV} {e : QX} : kTa x hi st ρ q e l h = hi ρ h (kTb x l st ρ q e) e := rfl
def kT0 (lo hi st : WO) (ρ : En) (q : QV) (e : QX) : QV := fun x h => lo ρ h (kTa x hi st ρ q e) e
@[simp ↓] theorem kT0_s {x : MV} {lo hi st : WO} {ρ : En} {h : MH} {q : QV} {e : QX} : kT0 lo hi st ρ q e x h = lo ρ h (kTa x hi st ρ q e) e := rfl
def wSl3T (w : WE) (lo hi st : WO) : WE := fun ρ h q e => w ρ h (kT0 lo hi st ρ q e) e
@[simp ↓] theorem wSl3T_s {w : WE} {lo hi st : WO} {ρ : En} {h : MH} {q : QV} {e : QX} : wSl3T w lo hi st ρ h q e = w ρ h (kT0 lo hi st ρ q e) e := rfl
theorem evalPart_no {X : Cx} {Q : Value → Shared → Prop} {E : Value → Shared → Prop} {A : Around} {s : Shared} (h : Q .none s) : wpAny (model X.prog X.w) A (evalPart none X.env) Q E s := by
  rw [evalPart_none]
  exact wpAny_pure h
theorem se_sl3T {X : Cx} {a : Expr} {lo hi st : Option Expr} {wa : WE} {wl wu ws : WO} {p3 pos : Pos} (ha : SE X a wa) (hl : SO X lo wl) (hu : SO X hi wu) (hs : SO X st ws)
    (hsub : ∀ (a b : Addr), ∃ ops : List Value, subscripted (.Slice lo hi st p3) false (.ref a) (.ref b) = operate ops (getItem (.ref a) (.ref b)) := by intro a b; first | exact ⟨[.ref a, .ref b], by with_unfolding_all rfl⟩ | exact ⟨[.ref b, .ref a], by with_unfolding_all rfl⟩) : SE X (.Subscript a (.Slice lo hi st p3) pos) (wSl3T wa wl wu ws) := by
  refine ⟨fun pins s σ H Q I ⟨ρ, h, q, e, sr, hr, tk, w, k⟩ => ?_⟩
  have hA : LE X wa σ H fun v H1 => ∃ x h1, TK H H1 ∧ HR X.K h1 H1 ∧ VR X.K H1 x v ∧ kT0 wl wu ws ρ q e x h1 := ⟨ρ, h, _, e, sr, hr, tk, w, fun x v h1 H1 t1 r1 v1 w1 => ⟨x, h1, t1, r1, v1, w1⟩⟩
  refine Subscript_ (thn (ha.run pins s σ H _ I hA) fun v s1 ⟨xv, H1, I1, r1, x, h1, t1, hr1, vx, w1⟩ => ?_)
  have hL : LO X wl σ H1 fun l H2 => ∃ h2, TK H1 H2 ∧ HR X.K h2 H2 ∧ kTa x wu ws ρ q e l h2 := ⟨ρ, h1, _, e, sr.tk t1, hr1, tk_mono t1 tk, w1, fun l h2 H2 t2 r2 w2 => ⟨h2, t2, r2, w2⟩⟩
  refine wpAny_Slice (thn (hl.run pins s1 σ H1 _ I1 hL) fun vl s2 ⟨l, H2, I2, pl, h2, t2, hr2, w2⟩ => ?_)
  have hU : LO X wu σ H2 fun u H3 => ∃ h3, TK H2 H3 ∧ HR X.K h3 H3 ∧ kTb x l ws ρ q e u h3 := ⟨ρ, h2, _, e, sr.tk (t1.trans t2), hr2, tk_mono (t1.trans t2) tk, w2, fun u h3 H3 t3 r3 w3 => ⟨h3, t3, r3, w3⟩⟩
  refine thn (hu.run pins s2 σ H2 _ I2 hU) fun vu s3 ⟨u, H3, I3, pu, h3, t3, hr3, w3⟩ => ?_
  have hS : LO X ws σ H3 fun s H4 => ∃ h4, TK H3 H4 ∧ HR X.K h4 H4 ∧ kTc x l u q s h4 := ⟨ρ, h3, _, e, sr.tk (t1.trans (t2.trans t3)), hr3, tk_mono (t1.trans (t2.trans t3)) tk, w3, fun s h4 H4 t4 r4 w4 => ⟨h4, t4, r4, w4⟩⟩
  refine thn (hs.run pins s3 σ H3 _ I3 hS) fun vs s4 ⟨o, H4, I4, ps, h4, t4, hr4, w4⟩ => ?_
  have tt := t1.trans (t2.trans (t3.trans t4))
  have v4 := VR.tk (t2.trans (t3.trans t4)) x vx
  obtain ⟨xs, rfl⟩ : ∃ xs, x = .tup xs := by cases x <;> first | exact ⟨_, rfl⟩ | exact w4.elim
  obtain ⟨h0, hz, w5⟩ := w4
  obtain ⟨p, us, rfl, sq, rs⟩ := VR_tup.mp v4
  cases r1
  have I5 := I4.kept (t' := s4.toks) (h' := s4.heap.push { cls := .type "slice", data := .fields #[vl, vu, vs] }) fun _ _ => Heap.get?_push_of_some _
  obtain ⟨its, r, ht, hzz⟩ := I5.tuple sq
  show wpAny (model X.prog X.w) X.A (subscriptTail a (.Slice lo hi st p3) (.ref p) (.ref s4.heap.objs.size)) (EP X pins σ Q) X.xe { s4 with heap := s4.heap.push { cls := .type "slice", data := .fields #[vl, vu, vs] } }
  obtain ⟨ops, hops⟩ := hsub p s4.heap.objs.size
  refine tail_any (ops := ops) ht.typeIs (PyProof.Rows.slot_tuple_getitem.lookup) ?_ hops
  have rs' := rs.slT l u o
  refine tup_slice I5 sq (Heap.IsSliceOf.new _ vl vu vs) pl pu ps h0 (by rw [← rs'.length]; exact hz) (fun ew => ?_) fun p' n => ?_
  · refine k (.tup (MM.slT xs l u o)) _ h4 H4 tt hr4 (VR_tup.mpr ⟨p, us, rfl, sq, ?_⟩) w5
    rw [ew] at rs'
    exact rs'
  · have t5 := TK.new (o := .tup (MM.slT us l u o)) n
    exact k (.tup (MM.slT xs l u o)) _ h4 _ (tt.trans t5) (hr4.new' n) (VR_tup.mpr ⟨p', _, rfl, SqT.of upd_same, VRs.tk t5 _ rs'⟩) w5
/-! ### t[i], i an int or a slice -/
def bIxS : B2 := fun x y h q e => match x, y with
  | .tup xs, .slc a b c => c ≠ some 0 ∧ (slT xs a b c).length ≤ sizeLine ∧ q (.tup (slT xs a b c)) h
  | x, y => bIx x y h q e
section
variable {h : MH} {q : QV} {e : QX}
@[simp ↓] theorem bIxS_slc {xs : List MV} {a b c : Option Int} : bIxS (.tup xs) (.slc a b c) h q e = (c ≠ some 0 ∧ (slT xs a b c).length ≤ sizeLine ∧ q (.tup (slT xs a b c)) h) := rfl
@[simp ↓] theorem bIxS_int {xs : List MV} {i : Int} : bIxS (.tup xs) (.int i) h q e = bIx (.tup xs) (.int i) h q e := rfl
end
/-- what a subscript of a tuple by a slice object is -/
def rIxSl (X : Cx) : R2 := fun x y H Q => ∃ p vs sl a b c, x = .ref p ∧ y = .ref sl ∧ SqT X.K H p vs ∧ H sl = some (slcO sl a b c) ∧ c ≠ some 0 ∧ (slT vs a b c).length ≤ sizeLine ∧ (slT vs a b c = vs → Q (.ref p) H) ∧ ∀ z, H z = none → Q (.ref z) (upd H z (.tup (slT vs a b c)))
theorem ix_sl {X : Cx} : IxR X (rIxSl X) := by
  intro value slice pins s σ H x y v u Q I rx ry hq hs
  obtain ⟨p, vs, sl, a, b, c, rfl, rfl, sq, es, h0, hz, q1, q2⟩ := hq
  cases rx
  cases ry
  obtain ⟨vl, vu, vst, hsl, pl, pu, ps⟩ := slc_at I.hok es
  obtain ⟨its, r, ht, hzz⟩ := I.tuple sq
  exact tail_any ht.typeIs (PyProof.Rows.slot_tuple_getitem.lookup) (tup_slice I sq hsl pl pu ps h0 hz q1 q2) hs
theorem se_ixS {X : Cx} {a b : Expr} {wa wb : WE} {pos : Pos} (ha : SE X a wa) (hb : SE X b wb) (hs : PlainIx b := by exact fun _ _ => rfl) : SE X (.Subscript a b pos) (wBin bIxS wa wb) := by
  refine PE.imp (pe_ix (IxR.or ix_seq ix_sl) ha hb hs) fun σ H Q x => LE.two (r := fun x y H Q => _ ∨ _) (fun x y v u h H q e Q hh rx ry w k => ?_) x
  unfold bIxS at w
  split at w
  · rename_i xs a b c
    obtain ⟨h0, hz, z⟩ := w
    obtain ⟨p, vs, rfl, sq, rs⟩ := VR_tup.mp rx
    obtain ⟨sl, rfl, es⟩ := VR_slc.mp ry
    have rs' := rs.slT a b c
    refine .inr ⟨p, vs, sl, a, b, c, rfl, rfl, sq, es, h0, by rw [← rs'.length]; exact hz, fun ew => ?_, fun p' n => ?_⟩
    · refine k _ _ h H (TK.refl H) hh (VR_tup.mpr ⟨p, vs, rfl, sq, ?_⟩) z
      rw [ew] at rs'
      exact rs'
    · have t5 := TK.new (o := .tup (MM.slT vs a b c)) n
      exact k _ _ h _ t5 (hh.new' n) (VR_tup.mpr ⟨p', _, rfl, SqT.of upd_same, VRs.tk t5 _ rs'⟩) z
  · exact .inl (ok_ix _ _ _ _ _ _ _ _ _ hh rx ry w k)
/-! ### o[i], o an instance of an own class -/
section
variable {X : Cx} {f : Value} {Φ : Spec}
theorem takes_in {W : WX} (ok : X.Ok) (tk : Takes X W) : Takes (cin X) W := fun u s' ⟨a, B, sI, pins, σ, H, cls, d, e, I, r⟩ => tk u s' ⟨a, B, sI, pins, σ, H, cls, d, e, inv_out ok I, r⟩
theorem CallM.e1 (c : CallM (cin X) f Φ) {pins : List (Addr × Obj)} {s : Shared} {σ : L2.St} {H : Hp} {ρ : En} {h : MH} {args : List MV} {vs : List V} {us : List Value} {q : QV} {e : QX} {Q : VK} (I : Inv X pins σ H s) (sr : SR X.K H ρ σ) (hh : HR X.K h H) (tk : Takes X (LW X.K H ρ e)) (va : VRs X.K H args vs) (vv : Vals vs us) (φ : Φ args h q e)
    (k : ∀ mv v h' H', TK H H' → HR X.K h' H' → VR X.K H' mv v → q mv h' → Q v H') : wpAny (model X.prog X.w) X.A.in1 (call f us) (EP X pins σ Q) X.xe s :=
  wpAny_mono (c pins s σ H ρ h args vs us q e Q (inv_in I) sr hh (takes_in I.ok tk) va vv φ k) (fun _ _ z => ep_out I.ok z) fun _ _ z => z
end
/-- where the class's own subscript stands -/
structure GetO (P : Program) (w : World) (K : PySem.W.Frag) (mg : Str → Option Value) (base : Heap) (k : Nat) (C : Addr) (Φ : Spec) : Prop where
  nsq : PySem.W.noSeq K C = true
  ex : ∃ f, PySem.W.findIn K (.ref C) "__getitem__" = some (some (.ref f)) ∧ PySem.W.fnIn K f = true ∧ PySem.W.isFn K (.ref f) = true ∧ ∀ X : Cx, On P w K mg base k X → CallM X (.ref f) Φ
/-- o[i] of an own class by a slice without a step -/
theorem sub_K2 {prog : Program} {w : World} {A : Around} {E : Value → Shared → Prop} {s : Shared} {K : PySem.W.Frag} {x C L f : Addr} {h₀ : Heap} {m : Str → Option Value} {ox : Obj} {od : Option Obj} {value slice : Expr} {i : Value} {Q : Value → Shared → Prop} (F : PyProof.Rows.Fr h₀ L s.heap m) (X₀ : K.In h₀) (I : PySem.W.InstAt s.heap x ox C od) (hq : PySem.W.noSeq K C = true)
    (hs : PySem.W.findIn K (.ref C) "__getitem__" = some (some (.ref f))) (hf : PySem.W.fnIn K f = true) (hfn : PySem.W.isFn K (.ref f) = true) (h : wpAny (model prog w) A (call (.ref f) [.ref x, i]) Q E s)
    (hsl : subscripted slice true (.ref x) i = operate [i, .ref x] (getItem (.ref x) i)) : wpAny (model prog w) A (subscriptTail value slice (.ref x) i) Q E s := by
  have X := X₀.keeps F.keep
  unfold PySem.W.fnIn at hf
  split at hf
  · rename_i e
    rw [subscriptTail, getitemInPython]
    refine wpAny_bind (wpAny_bind (wpAny_bind (I.type.here ((PySem.W.looks_findIn X hs).here (wpAny_bind (wpAny_load (X _ _ e) (wpAny_pure ?_)))))))
    rw [hsl]
    refine wpAny_bind (wpAny_operateT (PySem.W.getItem_K F X₀ I hq hs hfn (wpAny_mono h (fun r s₃ h₃ => wpAny_bind (wpAny_letTemporaryGo (wpAny_pure h₃))) fun _ _ z => z)))
  · cases hf
theorem Me.getO {P : Program} {w : World} {K : PySem.W.Frag} {mg : Str → Option Value} {base : Heap} {k : Nat} {C : Addr} {Φ : Spec} {qual : Str} {st : Stmt} {dvs : List V} (M : Me P w K mg base k C "__getitem__" Φ) (D : DfM K C "__getitem__" qual st dvs) (nsq : PySem.W.noSeq K C = true) : GetO P w K mg base k C Φ := by
  obtain ⟨_, f, hm, F⟩ := M
  obtain ⟨f', fd, hm', G⟩ := D
  obtain rfl : f = f' := by
    have e := hm.at_.symm.trans hm'.at_
    cases e
    rfl
  refine ⟨nsq, f, hm.at_, ?_, hm.fn, F⟩
  obtain ⟨oc, od, dV, kV, doc, pm, an, cdv, ct, osl, rfl, lk, _⟩ := G.ex
  unfold PySem.W.fnIn
  rw [lk]
def kGet2 (C : Addr) (Φ : Spec) (x y : MV) (h : MH) (q : QV) (e : QX) : Addr → List (Str × MV) → Prop := fun D _ => D = C ∧ Φ [x, y] h q e
@[simp ↓] theorem kGet2_s {C D : Addr} {Φ : Spec} {x y : MV} {h : MH} {q : QV} {e : QX} {fs : List (Str × MV)} : kGet2 C Φ x y h q e D fs = (D = C ∧ Φ [x, y] h q e) := rfl
def kGet1 (C : Addr) (Φ : Spec) (x : MV) (q : QV) (e : QX) : QV := fun y h => insK h x (kGet2 C Φ x y h q e)
@[simp ↓] theorem kGet1_s {C : Addr} {Φ : Spec} {x y : MV} {h : MH} {q : QV} {e : QX} : kGet1 C Φ x q e y h = insK h x (kGet2 C Φ x y h q e) := rfl
def kGet0 (C : Addr) (Φ : Spec) (wi : WE) (ρ : En) (q : QV) (e : QX) : QV := fun x h => wi ρ h (kGet1 C Φ x q e) e
@[simp ↓] theorem kGet0_s {C : Addr} {Φ : Spec} {wi : WE} {ρ : En} {x : MV} {h : MH} {q : QV} {e : QX} : kGet0 C Φ wi ρ q e x h = wi ρ h (kGet1 C Φ x q e) e := rfl
def wGetO (C : Addr) (Φ : Spec) (wo wi : WE) : WE := fun ρ h q e => wo ρ h (kGet0 C Φ wi ρ q e) e
@[simp ↓] theorem wGetO_s {C : Addr} {Φ : Spec} {wo wi : WE} {ρ : En} {h : MH} {q : QV} {e : QX} : wGetO C Φ wo wi ρ h q e = wo ρ h (kGet0 C Φ wi ρ q e) e := rfl
section
variable {X : Cx} {P : Program} {w : World} {K : PySem.W.Frag} {mg : Str → Option Value} {base : Heap} {k j : Nat} {C : Addr} {Φ : Spec} {o i : Expr} {wo wi : WE} {pos : Pos}
theorem get_tail (L : GetO P w K mg base j C Φ) (on : On P w K mg base k X) (hj : j + 1 ≤ k) {value slice : Expr} {pins : List (Addr × Obj)} {s : Shared} {σ : L2.St} {H : Hp} {ρ : En} {h : MH} {x y : MV} {v u : V} {v' u' : Value} {q : QV} {e : QX} {Q : VK} (I : Inv X pins σ H s) (sr : SR X.K H ρ σ) (hh : HR X.K h H) (tk : Takes X (LW X.K H ρ e))
    (vx : VR X.K H x v) (vy : VR X.K H y u) (r1 : RelV v v') (r2 : RelV u u') (z : insK h x (kGet2 C Φ x y h q e)) (kk : ∀ mv v h' H', TK H H' → HR X.K h' H' → VR X.K H' mv v → q mv h' → Q v H')
    (hsl : (∀ (p : Addr) (i : Value), subscripted slice true (.ref p) i = runValue (.builtin "lifetime.subscript" ⟨[.ref p, i], []⟩)) ∨ ∀ (p : Addr) (i : Value), subscripted slice true (.ref p) i = operate [i, .ref p] (getItem (.ref p) i)) : wpAny (model X.prog X.w) X.A (subscriptTail value slice v' u') (EP X pins σ Q) X.xe s := by
  obtain ⟨nsq, f, h1, h2, h3, F⟩ := L
  have c := F (cin X) ((on.mono hj).in1)
  have c2 := F X (on.mono (Nat.le_of_succ_le hj))
  obtain ⟨rfl, rfl, rfl, rfl, rfl, rm, gu⟩ := on
  obtain ⟨D, fs, ep, rfl, φ⟩ := insK_get z
  obtain ⟨p, dx, gs, e0, g1, _⟩ := ins_ok hh vx ep
  subst e0
  cases r1
  obtain ⟨mA, J, _⟩ := ins_get I.hok g1
  obtain ⟨od, J, _⟩ := J.look
  obtain ⟨m, hF⟩ := I.fr
  rcases hsl with hsl | hsl
  · exact PySem.W.sub_K hF I.ok.mod.kin J h1 h2 h3 (c.e1 I sr hh tk (VRs_cons.mpr ⟨_, _, rfl, vx, VRs_cons.mpr ⟨_, _, rfl, vy, by simp⟩⟩) (.cons rfl (.cons r2 .nil)) φ kk) (hsl _ _)
  · exact sub_K2 hF I.ok.mod.kin J nsq h1 h2 h3 (c2 pins s σ H ρ h [x, y] _ _ q e Q I sr hh tk (VRs_cons.mpr ⟨_, _, rfl, vx, VRs_cons.mpr ⟨_, _, rfl, vy, by simp⟩⟩) (.cons rfl (.cons r2 .nil)) φ kk) (hsl _ _)
theorem se_getO (L : GetO P w K mg base j C Φ) (on : On P w K mg base k X) (ho : SE X o wo) (hi : SE X i wi) (hj : j + 1 ≤ k := by decide)
    (hsl : ∀ (p : Addr) (u : Value), subscripted i true (.ref p) u = runValue (.builtin "lifetime.subscript" ⟨[.ref p, u], []⟩) := by intros; with_unfolding_all rfl) : SE X (.Subscript o i pos) (wGetO C Φ wo wi) := by
  refine ⟨fun pins s σ H Q I ⟨ρ, h, q, e, sr, hr, tk, wd, kk⟩ => ?_⟩
  have hA : LE X wo σ H fun v H1 => ∃ x h1, TK H H1 ∧ HR X.K h1 H1 ∧ VR X.K H1 x v ∧ kGet0 C Φ wi ρ q e x h1 := ⟨ρ, h, _, e, sr, hr, tk, wd, fun x v h1 H1 t1 r1 v1 w1 => ⟨x, h1, t1, r1, v1, w1⟩⟩
  refine Subscript_ (thn (ho.run pins s σ H _ I hA) fun v' s1 ⟨v, H1, I1, r1, x, h1, t1, hr1, vx, w1⟩ => ?_)
  have hB : LE X wi σ H1 fun u H2 => ∃ y h2, TK H1 H2 ∧ HR X.K h2 H2 ∧ VR X.K H2 y u ∧ kGet1 C Φ x q e y h2 := ⟨ρ, h1, _, e, sr.tk t1, hr1, tk_mono t1 tk, w1, fun y u h2 H2 t2 r2 v2 w2 => ⟨y, h2, t2, r2, v2, w2⟩⟩
  refine thn (hi.run pins s1 σ H1 _ I1 hB) fun u' s2 ⟨u, H2, I2, r2, y, h2, t2, hr2, vy, w2⟩ => ?_
  exact get_tail L on hj I2 (sr.tk (t1.trans t2)) hr2 (tk_mono (t1.trans t2) tk) (VR.tk t2 x vx) vy r1 r2 w2 (fun mv v h' H' t hh vr z => kk mv v h' H' (t1.trans (t2.trans t)) hh vr z) (.inl hsl)
end
/-! ### o[lo:hi:st] -/
def kGsc (C : Addr) (Φ : Spec) (x : MV) (l u : Option Int) (q : QV) (e : QX) : Option Int → MH → Prop := fun s h => insK h x (kGet2 C Φ x (.slc l u s) h q e)
@[simp ↓] theorem kGsc_s {C : Addr} {Φ : Spec} {x : MV} {l u s : Option Int} {q : QV} {e : QX} {h : MH} : kGsc C Φ x l u q e s h = insK h x (kGet2 C Φ x (.slc l u s) h q e) := rfl
def kGsb (C : Addr) (Φ : Spec) (x : MV) (l : Option Int) (st : WO) (ρ : En) (q : QV) (e : QX) : Option Int → MH → Prop := fun u h => st ρ h (kGsc C Φ x l u q e) e
@[simp ↓] theorem kGsb_s {C : Addr} {Φ : Spec} {x : MV} {l u : Option Int} {st : WO} {ρ : En} {q : QV} {e : QX} {h : MH} : kGsb C Φ x l st ρ q e u h = st ρ h (kGsc C Φ x l u q e) e := rfl
def kGsa (C : Addr) (Φ : Spec) (x : MV) (hi st : WO) (ρ : En) (q : QV) (e : QX) : Option Int → MH → Prop := fun l h => hi ρ h (kGsb C Φ x l st ρ q e) e
@[simp ↓] theorem kGsa_s {C : Addr} {Φ : Spec} {x : MV} {l : Option Int} {hi st : WO} {ρ : En} {q : QV} {e : QX} {h : MH} : kGsa C Φ x hi st ρ q e l h = hi ρ h (kGsb C Φ x l st ρ q e) e := rfl
def kGs0 (C : Addr) (Φ : Spec) (lo hi st : WO) (ρ : En) (q : QV) (e : QX) : QV := fun x h => lo ρ h (kGsa C Φ x hi st ρ q e) e
@[simp ↓] theorem kGs0_s {C : Addr} {Φ : Spec} {x : MV} {lo hi st : WO} {ρ : En} {q : QV} {e : QX} {h : MH} : kGs0 C Φ lo hi st ρ q e x h = lo ρ h (kGsa C Φ x hi st ρ q e) e := rfl
def wGetS (C : Addr) (Φ : Spec) (w : WE) (lo hi st : WO) : WE := fun ρ h q e => w ρ h (kGs0 C Φ lo hi st ρ q e) e
@[simp ↓] theorem wGetS_s {C : Addr} {Φ : Spec} {w : WE} {lo hi st : WO} {ρ : En} {h : MH} {q : QV} {e : QX} : wGetS C Φ w lo hi st ρ h q e = w ρ h (kGs0 C Φ lo hi st ρ q e) e := rfl
theorem se_getS {X : Cx} {P : Program} {w : World} {K : PySem.W.Frag} {mg : Str → Option Value} {base : Heap} {k j : Nat} {C : Addr} {Φ : Spec} {a : Expr} {lo hi st : Option Expr} {wa : WE} {wl wu ws : WO} {p3 pos : Pos} (L : GetO P w K mg base j C Φ) (on : On P w K mg base k X) (ha : SE X a wa) (hl : SO X lo wl) (hu : SO X hi wu) (hs : SO X st ws) (hj : j + 1 ≤ k := by decide)
    (hsl : (∀ (p : Addr) (u : Value), subscripted (.Slice lo hi st p3) true (.ref p) u = runValue (.builtin "lifetime.subscript" ⟨[.ref p, u], []⟩)) ∨ ∀ (p : Addr) (u : Value), subscripted (.Slice lo hi st p3) true (.ref p) u = operate [u, .ref p] (getItem (.ref p) u) := by first | exact .inl (by intros; with_unfolding_all rfl) | exact .inr (by intros; with_unfolding_all rfl)) : SE X (.Subscript a (.Slice lo hi st p3) pos) (wGetS C Φ wa wl wu ws) := by
  refine ⟨fun pins s σ H Q I ⟨ρ, h, q, e, sr, hr, tk, wd, kk⟩ => ?_⟩
  have hA : LE X wa σ H fun v H1 => ∃ x h1, TK H H1 ∧ HR X.K h1 H1 ∧ VR X.K H1 x v ∧ kGs0 C Φ wl wu ws ρ q e x h1 := ⟨ρ, h, _, e, sr, hr, tk, wd, fun x v h1 H1 t1 r1 v1 w1 => ⟨x, h1, t1, r1, v1, w1⟩⟩
  refine Subscript_ (thn (ha.run pins s σ H _ I hA) fun v s1 ⟨xv, H1, I1, r1, x, h1, t1, hr1, vx, w1⟩ => ?_)
  have hL : LO X wl σ H1 fun l H2 => ∃ h2, TK H1 H2 ∧ HR X.K h2 H2 ∧ kGsa C Φ x wu ws ρ q e l h2 := ⟨ρ, h1, _, e, sr.tk t1, hr1, tk_mono t1 tk, w1, fun l h2 H2 t2 r2 w2 => ⟨h2, t2, r2, w2⟩⟩
  refine wpAny_Slice (thn (hl.run pins s1 σ H1 _ I1 hL) fun vl s2 ⟨l, H2, I2, pl, h2, t2, hr2, w2⟩ => ?_)
  have hU : LO X wu σ H2 fun u H3 => ∃ h3, TK H2 H3 ∧ HR X.K h3 H3 ∧ kGsb C Φ x l ws ρ q e u h3 := ⟨ρ, h2, _, e, sr.tk (t1.trans t2), hr2, tk_mono (t1.trans t2) tk, w2, fun u h3 H3 t3 r3 w3 => ⟨h3, t3, r3, w3⟩⟩
  refine thn (hu.run pins s2 σ H2 _ I2 hU) fun vu s3 ⟨u, H3, I3, pu, h3, t3, hr3, w3⟩ => ?_
  have hS : LO X ws σ H3 fun s H4 => ∃ h4, TK H3 H4 ∧ HR X.K h4 H4 ∧ kGsc C Φ x l u q e s h4 := ⟨ρ, h3, _, e, sr.tk (t1.trans (t2.trans t3)), hr3, tk_mono (t1.trans (t2.trans t3)) tk, w3, fun s h4 H4 t4 r4 w4 => ⟨h4, t4, r4, w4⟩⟩
  refine thn (hs.run pins s3 σ H3 _ I3 hS) fun vs s4 ⟨o, H4, I4, ps, h4, t4, hr4, w4⟩ => ?_
  have tt := t1.trans (t2.trans (t3.trans t4))
  have v4 := VR.tk (t2.trans (t3.trans t4)) x vx
  have n4 : H4 s4.heap.objs.size = none := I4.hok.fresh (Nat.le_refl _)
  have t5 : TK H4 (upd H4 s4.heap.objs.size (slcO s4.heap.objs.size l u o)) := TK.new n4
  have I5 : Inv X pins σ (upd H4 s4.heap.objs.size (slcO s4.heap.objs.size l u o)) { s4 with heap := s4.heap.push { cls := .type "slice", data := .fields #[vl, vu, vs] } } :=
    I4.laid (t' := s4.toks) (o := slcO s4.heap.objs.size l u o) (fun b ob q => Heap.get?_push_of_some _ q) (Nat.le_refl _) (slc_ok (Heap.IsSliceOf.new _ vl vu vs) pl pu ps)
  show wpAny (model X.prog X.w) X.A (subscriptTail a (.Slice lo hi st p3) v (.ref s4.heap.objs.size)) (EP X pins σ Q) X.xe { s4 with heap := s4.heap.push { cls := .type "slice", data := .fields #[vl, vu, vs] } }
  exact get_tail L on hj I5 (sr.tk (tt.trans t5)) (hr4.new' n4) (tk_mono (tt.trans t5) tk) (VR.tk t5 x v4) (VR_slc.mpr ⟨_, rfl, upd_same⟩) r1 rfl w4 (fun mv v h' H' t hh vr z => kk mv v h' H' (tt.trans (t5.trans t)) hh vr z) hsl
end MM
end
section
namespace MM
open PySem PySem.Spec PyProof.Rows L2
/-! ### a text, walked sign by sign -/
def signsM (z : Str) : List MV := z.cps.toList.map fun c => .str ⟨#[c]⟩
def kStrI (q : ItM → MH → Prop) : QV := fun v h => match v with | .str z => q ⟨signsM z, fun _ => True⟩ h | _ => False
@[simp ↓] theorem kStrI_s {q : ItM → MH → Prop} {z : Str} {h : MH} : kStrI q (.str z) h = q ⟨signsM z, fun _ => True⟩ h := rfl
def wStrI (w : WE) : WI := fun ρ h q e => w ρ h (kStrI q) e
@[simp ↓] theorem wStrI_s {w : WE} {ρ : En} {h : MH} {q : ItM → MH → Prop} {e : QX} : wStrI w ρ h q e = w ρ h (kStrI q) e := rfl
theorem jm_str {K : PySem.W.Frag} {H : Hp} {z : Str} : JM K H (Its z) ⟨signsM z, fun _ => True⟩ := by
  have hl : (signsM z).length = z.cps.size := by simp [signsM]
  refine ⟨fun i H' h t r e hi => ?_, fun i H' h x H2 t r e hi y => ?_, fun H' h t r e => ?_⟩
  · show i < z.cps.size
    rw [← hl]
    exact hi
  · obtain ⟨e1, c, ec, ex⟩ := y
    subst e1
    subst ex
    refine ⟨TK.refl _, r, .str ⟨#[c]⟩, ?_, by simp⟩
    show (signsM z)[i]? = _
    unfold signsM
    rw [List.getElem?_map, Array.getElem?_toList, ec]
    rfl
  · show z.cps.size ≤ (signsM z).length
    rw [hl]
    exact Nat.le_refl _
theorem si_str {X : Cx} {tg e : Expr} {w : WE} (h : SE X e w) : SI X tg e (wStrI w) :=
  PI.imp (pi_str (tg := tg) h) fun σ H R ⟨ρ, h, q, e, sr, hr, tk, w, k⟩ => by
    show LE X _ σ H _
    exact ⟨ρ, h, _, e, sr, hr, tk, w, fun v u h1 H1 t1 r1 v1 w1 => by
      cases v with
      | str z =>
        simp at v1
        exact ⟨z, v1, k _ _ h1 H1 t1 r1 jm_str w1⟩
      | _ => exact w1.elim⟩
/-! ### C.m(..), m a classmethod -/
def cmAd (K : PySem.W.Frag) (C : Addr) (m : Str) : Addr := match PySem.W.findCls K (.ref C) (.type "type") m with
  | some (.get _ (.ref p) _ _) => p
  | _ => 0
def cmFn (K : PySem.W.Frag) (C : Addr) (m : Str) : Addr := match PySem.W.recIn K (cmAd K C m) "classmethod" with
  | some (.ref g :: _) => g
  | _ => 0
structure CmM (P : Program) (w : World) (K : PySem.W.Frag) (mg : Str → Option Value) (base : Heap) (k : Nat) (C : Addr) (m : Str) (Φ : Spec) : Prop where
  ex : ∃ (p g : Addr) (fd : FuncData) (ps : List Str), ClX.CRead K C (.type "type") ∧ ClX.CMet K C (.type "type") m p g ∧ Binds K fd ps [] ∧ FnM P w K mg base k g fd ps Φ
/-- where a classmethod stands -/
def DfC (K : PySem.W.Frag) (C : Addr) (m qual : Str) (st : Stmt) : Prop := ∃ p g fd, ClX.CRead K C (.type "type") ∧ ClX.CMet K C (.type "type") m p g ∧ FunD K m qual (defArgs st) (defBody st) (defScope st) [] [] g fd
theorem DfC.cm {P : Program} {w : World} {K : PySem.W.Frag} {mg : Str → Option Value} {base : Heap} {k : Nat} {C : Addr} {m qual : Str} {st : Stmt} {N ps : List Str} {Φ : Spec} (D : DfC K C m qual st) (S : FnScope N ps (defScope st)) (hb : BindN m qual st ps) (len : ∀ args h q e, Φ args h q e → args.length = ps.length)
    (hbody : ∀ (f : Addr) (cdv : Value) (A : Around) (outer : List PySem.Env) (s : Shared) (H : Hp) (E : XK), On P w K mg base k (cxOf (L2N.CX P w) P w K mg base N qual (defScope st) f cdv A outer s H E) →
      ∃ b, SSs (cxOf (L2N.CX P w) P w K mg base N qual (defScope st) f cdv A outer s H E) (defBody st) b ∧ ∀ args h q e, Φ args h q e → b (startM N.length args) h (bodyD q e)) : CmM P w K mg base (k + 1) C m Φ := by
  obtain ⟨p, g, fd, r, c, F⟩ := D
  exact ⟨p, g, fd, ps, r, c, F.bindsN hb, fnM F S len fun cdv A outer s H E hr hgu => hbody g cdv A outer s H E ⟨rfl, rfl, rfl, rfl, rfl, hr, hgu⟩⟩
def kCm1 (C : Addr) (Φ : Spec) (q : QV) (e : QX) : List MV → MH → Prop := fun xs h => Φ (.ref C :: xs) h q e
@[simp ↓] theorem kCm1_s {C : Addr} {Φ : Spec} {q : QV} {e : QX} {xs : List MV} {h : MH} : kCm1 C Φ q e xs h = Φ (.ref C :: xs) h q e := rfl
def kCm0 (C : Addr) (Φ : Spec) (a : WA) (ρ : En) (q : QV) (e : QX) : QV := fun x h => x = .ref C ∧ a ρ h (kCm1 C Φ q e) e
@[simp ↓] theorem kCm0_s {C : Addr} {Φ : Spec} {a : WA} {ρ : En} {q : QV} {e : QX} {x : MV} {h : MH} : kCm0 C Φ a ρ q e x h = (x = .ref C ∧ a ρ h (kCm1 C Φ q e) e) := rfl
def wCm (C : Addr) (Φ : Spec) (o : WE) (a : WA) : WE := fun ρ h q e => o ρ h (kCm0 C Φ a ρ q e) e
@[simp ↓] theorem wCm_s {C : Addr} {Φ : Spec} {o : WE} {a : WA} {ρ : En} {h : MH} {q : QV} {e : QX} : wCm C Φ o a ρ h q e = o ρ h (kCm0 C Φ a ρ q e) e := rfl
theorem se_cm {X : Cx} {P : Program} {w : World} {K : PySem.W.Frag} {mg : Str → Option Value} {base : Heap} {k j : Nat} {C : Addr} {m : Str} {Φ : Spec} {o e : Expr} {es : List Expr} {wo : WE} {a : WA} {pos apos : Pos} {pl : Sem Bool} (L : CmM P w K mg base j C m Φ) (on : On P w K mg base k X) (ho : SE X o wo) (ha : SA X (e :: es) a) (hj : j ≤ k := by decide) (hst : starEach (e :: es) X.env = (false, eval e X.env) :: starEach es X.env := by rfl)
    (hpl : (backTo pos (starEach es X.env)).any (·.1) = false := by rfl) (ht : eval (.Call (.Attribute o m apos) (e :: es) [] pos) X.env = mcall pl o m apos (e :: es) pos X.env := by rfl) : SE X (.Call (.Attribute o m apos) (e :: es) [] pos) (wCm C Φ wo a) := by
  obtain ⟨p, g, fd, ps, rd, cm, bd, F⟩ := L.ex
  have onj := on.mono hj
  obtain ⟨rfl, rfl, rfl, rfl, rfl, r, gu⟩ := onj
  refine ⟨fun pins s σ H Q I ⟨ρ, h, q, e', sr, hr, tk, wd, kk⟩ => ?_⟩
  have hA : LE X wo σ H fun v H1 => v = .ref C ∧ ∃ h1, TK H H1 ∧ HR X.K h1 H1 ∧ a ρ h1 (kCm1 C Φ q e') e' := ⟨ρ, h, _, e', sr, hr, tk, wd, fun x v h1 H1 t1 r1 v1 ⟨ex, w1⟩ => by
    subst ex
    exact ⟨by simpa using v1, h1, t1, r1, w1⟩⟩
  refine PySem.W.methodCall_KW (pl := pl) (thn (ho.run pins s σ H _ I hA) fun u s1 ⟨x, H1, I1, rx, ex, h1, t1, r1, w1⟩ => ?_) ht
  subst ex
  cases (show u = .ref C from rx)
  refine ClX.getmethcm_ok I1 rd cm fun s2 I2 => ?_
  have hB : LA X a σ H1 fun vs H2 => ∃ mvs h2, TK H1 H2 ∧ HR X.K h2 H2 ∧ VRs X.K H2 mvs vs ∧ Φ (.ref C :: mvs) h2 q e' := ⟨ρ, h1, _, e', sr.tk t1, r1, tk_mono t1 tk, w1, fun mvs vs h2 H2 t2 r2 v2 w2 => ⟨mvs, h2, t2, r2, v2, w2⟩⟩
  refine ClX.callwith_cm I2 (ClX.base_none I1 (Nat.le_refl _)) cm.fi (thn (ha.run pos _ s2 σ H1 _ I2 hB) fun us s3 ⟨vs, H2, I3, rv, mvs, h2, t2, r2, v2, φ⟩ => ⟨⟨ClX.pin_at I3, I3.kIn⟩, ?_⟩) hst hpl
  have tt := t1.trans t2
  have hsp : LSp X.K Φ (.ref C :: vs) H2 Q fun cls d H' => LW X.K H ρ e' cls d σ H' := ⟨.ref C :: mvs, h2, q, e', VRs_cons.mpr ⟨_, _, rfl, by simp, v2⟩, r2, φ, fun mv v h' H' t hh vr z => kk mv v h' H' (tt.trans t) hh vr z, fun mx cls d h' H' t hh rx z => ⟨mx, h', tt.trans t, sr.tk (tt.trans t), hh, rx, z⟩⟩
  have hl : (Value.ref C :: us).length = ps.length := by
    have e0 := F.len _ _ _ _ hsp
    have e1 := rv.length
    simp only [List.length_cons] at e0 ⊢
    omega
  have z : wpAny (model X.prog X.w) X.A (call (.ref s1.heap.objs.size) us) (EP X ((s1.heap.objs.size, PySem.W.methodObj (.ref g) (.ref C)) :: pins) σ Q) X.xe s3 := by
    refine wpAny_call (PySem.W.method_call (ClX.pin_at I3) (codeAny_mono (F.run X.A X.stack s3 H2 ⟨.ref C :: us, []⟩ (.ref C :: us) (.ref C :: vs) Q _ r gu I3.env0 (by have := bd s3 (.ref C :: us) I3.kIn (by simpa using hl); simpa using this) (.cons rfl rv) hsp) fun rr s' hq => ?_))
    cases rr with
    | error er => exact tk er s' (L2N.XE.of_call (ClX.unpin I3) (fun _ _ _ h => h) hq)
    | ok fl =>
      cases fl with
      | ret u => exact I3.after hq
      | next => exact False.elim hq
      | brk => exact False.elim hq
      | cont => exact False.elim hq
  exact thn z fun _ _ y => ClX.unpinE y
/-- the head's test of a classmethod -/
def cmB (x m : Str) : FaM := fun K => PySem.W.readsIn K (He.ga K x) (.type "type") && (He.eqO (PySem.W.specialIn K (.ref (He.ga K x)) "__getattribute__") (some (some (.builtin "type.__getattribute__"))) &&
  ((match PySem.W.findCls K (.ref (He.ga K x)) (.type "type") m with
    | some (.get (.builtin n) (.ref p) .none (.ref D)) => decide (n = "classmethod.__get__") && (decide (p = cmAd K (He.ga K x) m) && decide (D = He.ga K x))
    | _ => false) && ((match PySem.W.recIn K (cmAd K (He.ga K x) m) "classmethod" with
    | some (.ref g :: _) => decide (g = cmFn K (He.ga K x) m)
    | _ => false) && PySem.W.fnIn K (cmFn K (He.ga K x) m))))
theorem cm_ok {K : PySem.W.Frag} {x m : Str} (c : cmB x m K = true) : ClX.CRead K (He.ga K x) (.type "type") ∧ ClX.CMet K (He.ga K x) (.type "type") m (cmAd K (He.ga K x) m) (cmFn K (He.ga K x) m) := by
  obtain ⟨c1, c⟩ := He.ba c
  obtain ⟨c2, c⟩ := He.ba c
  obtain ⟨c3, c⟩ := He.ba c
  obtain ⟨c4, c5⟩ := He.ba c
  refine ⟨⟨c1, He.eqO_ok c2⟩, ?_, ?_, c5⟩
  · split at c3
    · rename_i n p D e
      simp only [Bool.and_eq_true, decide_eq_true_eq] at c3
      obtain ⟨e1, e2, e3⟩ := c3
      subst e1
      rw [e, ← e2, e3]
    · cases c3
  · split at c4
    · rename_i g r e
      rw [of_decide_eq_true c4] at e
      exact ⟨r, e⟩
    · cases c4
/-! ### x(..), x a local name that holds a class or a def of the text -/
def wCallL (i : Nat) (C : Addr) (Φ : Spec) (a : WA) : WE := fun ρ h q e => wVar i ρ h (fun x h1 => x = .ref C ∧ a ρ h1 (fun xs h2 => Φ xs h2 q e) e) e
def kCl0 (C : Addr) (Φ : Spec) (a : WA) (ρ : En) (q : QV) (e : QX) : QV := fun x h1 => x = .ref C ∧ a ρ h1 (fun xs h2 => Φ xs h2 q e) e
@[simp ↓] theorem kCl0_s {C : Addr} {Φ : Spec} {a : WA} {ρ : En} {q : QV} {e : QX} {x : MV} {h : MH} : kCl0 C Φ a ρ q e x h = (x = .ref C ∧ wCall Φ a ρ h q e) := rfl
@[simp ↓] theorem wCallL_s {i : Nat} {C : Addr} {Φ : Spec} {a : WA} {ρ : En} {h : MH} {q : QV} {e : QX} : wCallL i C Φ a ρ h q e = wVar i ρ h (kCl0 C Φ a ρ q e) e := rfl
theorem se_callL {X : Cx} {P : Program} {w : World} {K : PySem.W.Frag} {mg : Str → Option Value} {base : Heap} {k j : Nat} {C : Addr} {y x : Str} {Φ : Spec} {e : Expr} {es : List Expr} {a : WA} {p pos : Pos} (i : Nat) (L : Cl P w K mg base j y C Φ) (on : On P w K mg base k X) (ha : SA X (e :: es) a) (hj : j ≤ k := by decide)
    (hN : X.N[i]? = some x := by rfl) (hv : Vis X.env.scope x := by first | exact Or.inl rfl | exact Or.inr (Or.inl rfl) | exact Or.inr (Or.inr rfl)) (hdb : (x == ("__debug__" : Str)) = false := by decide) (hcd : (x == ("__classdict__" : Str)) = false := by decide)
    (he : starEach (e :: es) X.env = (false, eval e X.env) :: starEach es X.env := by rfl) (hpl : (backTo pos (starEach es X.env)).any (·.1) = false := by rfl) : SE X (.Call (.Name x p) (e :: es) [] pos) (wCallL i C Φ a) := by
  obtain ⟨_, hk, F0⟩ := L
  have F := F0 X (on.mono hj)
  clear F0
  obtain ⟨rfl, rfl, rfl, rfl, rfl, r, gu⟩ := on.mono hj
  refine ⟨fun pins s σ H Q I ⟨ρ, h, q, e', sr, hr, tk, wd, kk⟩ => ?_⟩
  have hA : LE X (wVar i) σ H fun v H1 => v = .ref C ∧ ∃ h1, TK H H1 ∧ HR X.K h1 H1 ∧ wCall Φ a ρ h1 q e' := ⟨ρ, h, _, e', sr, hr, tk, wd, fun x v h1 H1 t1 r1 v1 ⟨ex, w1⟩ => by
    subst ex
    exact ⟨by simpa using v1, h1, t1, r1, w1⟩⟩
  refine wpAny_Call_Name_kw (thn ((sv (X := X) (pos := p) i hN hv hdb hcd).run pins s σ H _ I hA) fun u s1 ⟨v, H1, I1, r1, ev, h1, t1, hr1, w1⟩ => ?_)
  subst ev
  cases r1
  have hB := LE.call (α := Unit) (es := es) F I1 ⟨ρ, h1, q, e', sr.tk t1, hr1, tk_mono t1 tk, w1, fun mv v h' H' t hh vr z => kk mv v h' H' (t1.trans t) hh vr z⟩
  exact PySem.W.callWith_K (h₀ := X.base) I1.ok.mod.kin hk (thn (ha.run pos pins s1 σ H1 _ I1 hB) fun us s2 ⟨vs, H2, I2, r2, q2⟩ => ⟨I2.kIn, q2 s2 us I2 r2⟩) he hpl
end MM
end
section
namespace MM
open PySem PySem.Spec PyProof.Rows L2
/-! ### s.isdigit() -/
section
variable {X : Cx}
def mIsdigit : MSpec := fun x args h q _ => match x, args with
  | .str a, [] => q (.bl (Txt.isdigit a)) h
  | _, _ => False
@[simp ↓] theorem mIsdigit_s {a : Str} {h : MH} {q : QV} {e : QX} : mIsdigit (.str a) [] h q e = q (.bl (Txt.isdigit a)) h := rfl
theorem ok_isdigit : MtOk X "str" (fun x xs H Q => ∃ a, x = .str a ∧ xs = [] ∧ True ∧ Q (.bl (Txt.isdigit a)) H) isStr mIsdigit := ⟨str_ty, fun x args v vs h H q e Q hh rx ra φ k => by
  unfold mIsdigit at φ
  split at φ
  · rename_i a
    rw [VRs_nil] at ra
    simp at rx
    subst rx ra
    exact ⟨a, rfl, rfl, trivial, k _ _ h H (TK.refl H) hh (by simp) φ⟩
  · exact φ.elim⟩
end
/-! ### == of lists of texts -/
theorem dts_strs {h : MH} : ∀ zs : List Str, DTs h (zs.map PyData.str) (zs.map MV.str)
  | [] => by simp only [List.map_nil, DTs]
  | z :: zs => by
    simp only [List.map_cons, DTs]
    exact ⟨_, _, rfl, by simp only [DT], dts_strs zs⟩
theorem strs_shaped (zs : List Str) (ok : ∀ z ∈ zs, PyData.strOk z = true) : SeqAt.shaped (.list (zs.map PyData.str)) = true := by
  have a : PyData.canLayAll0 (zs.map PyData.str) = true := by
    induction zs with
    | nil => rfl
    | cons n ns ih => simp only [List.map_cons, PyData.canLayAll0, PyData.canLay0, ih fun z m => ok z (List.mem_cons_of_mem _ m), ok n (by simp), Bool.and_true]
  have b : PyData.depthAll (zs.map PyData.str) = 0 := by
    clear a ok
    induction zs with
    | nil => rfl
    | cons n ns ih => simp [List.map_cons, PyData.depthAll, PyData.depth, ih]
  unfold SeqAt.shaped
  refine Bool.and_eq_true_iff.mpr ⟨by simp only [PyData.canLay0, a], decide_eq_true ?_⟩
  simp only [PyData.depth, b]
  decide
theorem bEq_strs {n : Bool} {as bs : List Str} {h : MH} {q : QV} {e : QX} (oa : ∀ z ∈ as, PyData.strOk z = true) (ob : ∀ z ∈ bs, PyData.strOk z = true) (z : q (.bl (n ^^ PyData.eqv (.list (as.map PyData.str)) (.list (bs.map PyData.str)))) h) : bEqB n (.lis (as.map MV.str)) (.lis (bs.map MV.str)) h q e :=
  ⟨_, _, by simp only [DT]; exact .inl ⟨_, rfl, dts_strs as⟩, by simp only [DT]; exact .inl ⟨_, rfl, dts_strs bs⟩, strs_shaped as oa, strs_shaped bs ob, z⟩
end MM
end
section
namespace MM
open PySem PySem.Spec PyProof.Rows L2
/-! ### xs[i] = v, xs a list that may be changed -/
section
variable {X : Cx}
def kLs2 (v : MV) (p : Addr) (i : Int) (ρ : En) (h : MH) (q : En → MH → Prop) : Option MO → Prop := fun o => match o with
  | some (.lst xs) => 0 ≤ i ∧ i < xs.length ∧ q ρ (h.put p (.lst (xs.set i.toNat v)))
  | _ => False
@[simp ↓] theorem kLs2_s {v : MV} {p : Addr} {i : Int} {ρ : En} {h : MH} {q : En → MH → Prop} {xs : List MV} : kLs2 v p i ρ h q (some (.lst xs)) = (0 ≤ i ∧ i < xs.length ∧ q ρ (h.put p (.lst (xs.set i.toNat v)))) := rfl
def kLs1 (v x : MV) (ρ : En) (q : En → MH → Prop) : QV := fun y h => match x, y with
  | .ref p, .int i => atK h p (kLs2 v p i ρ h q)
  | _, _ => False
@[simp ↓] theorem kLs1_s {v : MV} {p : Addr} {i : Int} {ρ : En} {h : MH} {q : En → MH → Prop} : kLs1 v (.ref p) ρ q (.int i) h = atK h p (kLs2 v p i ρ h q) := rfl
def kLs0 (b : WE) (v : MV) (ρ : En) (q : En → MH → Prop) (e : QX) : QV := fun x h => b ρ h (kLs1 v x ρ q) e
@[simp ↓] theorem kLs0_s {b : WE} {v x : MV} {ρ : En} {h : MH} {q : En → MH → Prop} {e : QX} : kLs0 b v ρ q e x h = b ρ h (kLs1 v x ρ q) e := rfl
def gmSetL (a b : WE) : WG := fun v ρ h q e => a ρ h (kLs0 b v ρ q e) e
@[simp ↓] theorem gmSetL_s {a b : WE} {v : MV} {ρ : En} {h : MH} {q : En → MH → Prop} {e : QX} : gmSetL a b v ρ h q e = a ρ h (kLs0 b v ρ q e) e := rfl
theorem VRs.set {K : PySem.W.Frag} {H : Hp} {x : MV} {v : V} (r : VR K H x v) : ∀ {xs : List MV} {vs : List V} (n : Nat), VRs K H xs vs → VRs K H (xs.set n x) (vs.set n v)
  | [], _, n, h => by rw [VRs_nil] at h; subst h; simp
  | y :: xs, _, 0, h => by
    obtain ⟨u, r2, e, a, q⟩ := VRs_cons.mp h
    subst e
    exact VRs_cons.mpr ⟨v, r2, rfl, r, q⟩
  | y :: xs, _, n + 1, h => by
    obtain ⟨u, r2, e, a, q⟩ := VRs_cons.mp h
    subst e
    exact VRs_cons.mpr ⟨u, r2.set n v, rfl, a, VRs.set r n q⟩
theorem sg_setL {o i : Expr} {a b : WE} {pos : Pos} (ho : SE X o a) (hi : SE X i b)
    (ha : ∀ v, assign (.Subscript o i pos) X.env v = (holding [v] (eval o X.env) >>= fun ov => holding [v, ov] (eval i X.env) >>= fun iv => standAt pos >>= fun _ => holding [v, ov, iv] (setItem ov iv v) >>= fun _ => release [v, ov, iv] []) := by intro _; rfl) : SG X (.Subscript o i pos) (gmSetL a b) :=
  PG.imp (pg_sub ho hi set_list ha) fun v σ H Q ⟨mv, ρ, h, q, e, vr, sr, hr, tk, w, k⟩ => ⟨ρ, h, _, e, sr, hr, tk, w, fun x u h1 H1 t1 r1 v1 w1 => ⟨ρ, h1, _, e, sr.tk t1, r1, tk_mono t1 tk, w1, fun y u2 h2 H2 t2 r2 v2 w2 => by
    cases x with
    | ref p =>
      cases y with
      | int i =>
        simp at v1 v2
        subst v1 v2
        have w2 : kLs2 mv p i ρ h2 q (h2.at_ p) := w2
        unfold kLs2 at w2
        split at w2
        · rename_i xs ep
          obtain ⟨h0, hl, w2⟩ := w2
          obtain ⟨vs, g1, gr⟩ := r2.ob p _ ep
          have hl2 : i < vs.length := by rw [← gr.length]; exact hl
          have t3 : TK H2 (upd H2 p (.lst (vs.set i.toNat v))) := TK.mut g1 (fun z => z)
          refine ⟨p, vs, i, i.toNat, rfl, rfl, g1, by unfold ixN; rw [if_pos h0, if_pos hl2], ?_⟩
          have tt := t1.trans (t2.trans t3)
          exact k ρ σ _ _ tt (sr.tk tt) (r2.set (m := .lst (xs.set i.toNat mv)) ep t3 ⟨_, upd_same, VRs.tk t3 _ (VRs.set (VR.tk (t1.trans t2) _ vr) _ gr)⟩) w2
        · exact w2.elim
      | _ => exact w2.elim
    | _ => exact w2.elim⟩⟩
end
/-- == of lists of texts, one or both of which may be changed -/
theorem dt_strsR {h : MH} {p : Addr} {zs : List Str} (e : h.at_ p = some (.lst (zs.map MV.str))) : DT h (.list (zs.map PyData.str)) (.ref p) := by
  simp only [DT]
  exact .inr ⟨p, _, rfl, e, dts_strs zs⟩
theorem bEq_strsR {n : Bool} {p : Addr} {as bs : List Str} {h : MH} {q : QV} {e : QX} (ea : h.at_ p = some (.lst (as.map MV.str))) (oa : ∀ z ∈ as, PyData.strOk z = true) (ob : ∀ z ∈ bs, PyData.strOk z = true) (z : q (.bl (n ^^ PyData.eqv (.list (as.map PyData.str)) (.list (bs.map PyData.str)))) h) : bEqB n (.ref p) (.lis (bs.map MV.str)) h q e :=
  ⟨_, _, dt_strsR ea, by simp only [DT]; exact .inl ⟨_, rfl, dts_strs bs⟩, strs_shaped as oa, strs_shaped bs ob, z⟩
/-! ### values that isinstance may be asked of -/
def okInt (own : List Addr) : MV → MH → Prop := fun x h => ∃ t, typM h x = some t ∧ ∀ C, t = .ref C → C ∈ own
@[simp] theorem okInt_i {own : List Addr} {i : Int} {h : MH} : okInt own (.int i) h = True := eq_true ⟨_, rfl, fun C z => by cases z⟩
section
variable {own : List Addr}
theorem kSeqI_of {q : ItM → MH → Prop} {x : MV} {xs : List MV} {h : MH} (e : seqM h x = some xs) : kSeqI q x h = q ⟨xs, fun h2 => seqM h2 x = some xs⟩ h := by
  unfold kSeqI
  rw [seqK_of e]
theorem spTuple_of {x : MV} {xs : List MV} {h : MH} {q : QV} {e : QX} (el : seqM h x = some xs) : spTuple [x] h q e = q (.tup xs) h := by
  rw [spTuple_s, seqK_of el]
  rfl
theorem seqM_put {h : MH} {x : MV} {xs : List MV} {D : Addr} {o : MO} (e : seqM h x = some xs) (n : h.at_ D = none) : seqM (h.put D o) x = some xs := by
  cases x with
  | ref p =>
    have : p ≠ D := fun z => by
      subst z
      simp only [seqM, n] at e
      cases e
    simp only [seqM, MH.put_ne this] at e ⊢
    exact e
  | _ => exact e
theorem okInt_put {h : MH} {x : MV} {D : Addr} {o : MO} (e : okInt own x h) (n : h.at_ D = none) : okInt own x (h.put D o) := by
  obtain ⟨ty, et, ho⟩ := e
  refine ⟨ty, ?_, ho⟩
  cases x with
  | ref p =>
    have : p ≠ D := fun z => by
      subst z
      simp only [typM, n] at et
      cases et
    simp only [typM, MH.put_ne this] at et ⊢
    exact et
  | _ => exact et
/-- isinstance(x, b), b one of the built-in classes -/
def isTyM (b : String) (h : MH) (x : MV) : Bool := match typM h x with
  | some (.type a) => isB a b
  | _ => false
theorem isi_ty {x : MV} {b : String} {h : MH} {q : QV} (ok : okInt own x h) (hb : b ∈ names5) : typK h x (kIsi1 own (.ty b) h q) = q (.bl (isTyM b h x)) h := by
  obtain ⟨ty, et, ho⟩ := ok
  unfold typK isTyM
  rw [et]
  cases ty with
  | type a =>
    simp only
    rw [kIsi1_tt]
    exact propext ⟨fun z => z.2, fun z => ⟨⟨typM_ty et, hb⟩, z⟩⟩
  | ref C =>
    simp only
    rw [kIsi1_rt]
    exact propext ⟨fun z => z.2, fun z => ⟨⟨ho C rfl, hb⟩, z⟩⟩
  | _ =>
    exfalso
    cases x with
    | ref p =>
      simp only [typM] at et
      split at et <;> cases et
    | _ => cases et
def isStV : MV → Bool
  | .str _ => true
  | _ => false
def isBlV : MV → Bool
  | .bl _ => true
  | _ => false
theorem isTy_str {h : MH} {x : MV} : isTyM "str" h x = isStV x := by
  unfold isTyM
  cases x with
  | ref p =>
    simp only [typM]
    cases e : h.at_ p with
    | none => rfl
    | some o => cases o <;> rfl
  | _ => rfl
theorem isTy_bool {h : MH} {x : MV} : isTyM "bool" h x = isBlV x := by
  unfold isTyM
  cases x with
  | ref p =>
    simp only [typM]
    cases e : h.at_ p with
    | none => rfl
    | some o => cases o <;> rfl
  | _ => rfl
end
/-! ### xs.extend(ys), ys a list that is not frozen -/
section
variable {h : MH} {q : QV} {e : QX}
def kExt2 (p : Addr) (xs : List MV) (h : MH) (q : QV) : Option MO → Prop := fun o => match o with
  | some (.lst ys) => xs.length + ys.length ≤ sizeLine ∧ q .non (h.put p (.lst (xs ++ ys)))
  | _ => False
@[simp ↓] theorem kExt2_s {p : Addr} {xs ys : List MV} : kExt2 p xs h q (some (.lst ys)) = (xs.length + ys.length ≤ sizeLine ∧ q .non (h.put p (.lst (xs ++ ys)))) := rfl
def kExt1 (p b : Addr) (h : MH) (q : QV) : Option MO → Prop := fun o => match o with
  | some (.lst xs) => atK h b (kExt2 p xs h q)
  | _ => False
@[simp ↓] theorem kExt1_s {p b : Addr} {xs : List MV} : kExt1 p b h q (some (.lst xs)) = atK h b (kExt2 p xs h q) := rfl
@[simp ↓] theorem mExtend_s {p b : Addr} : mExtend (.ref p) [.ref b] h q e = atK h p (kExt1 p b h q) := by
  show (∃ xs ys, h.at_ p = some (.lst xs) ∧ h.at_ b = some (.lst ys) ∧ xs.length + ys.length ≤ sizeLine ∧ q .non (h.put p (.lst (xs ++ ys)))) = kExt1 p b h q (h.at_ p)
  refine propext ⟨fun ⟨xs, ys, e1, e2, z⟩ => ?_, fun z => ?_⟩
  · rw [e1]
    show kExt2 p xs h q (h.at_ b)
    rw [e2]
    exact z
  · unfold kExt1 at z
    split at z
    · rename_i xs e1
      have z : kExt2 p xs h q (h.at_ b) := z
      unfold kExt2 at z
      split at z
      · rename_i ys e2
        exact ⟨xs, ys, e1, e2, z⟩
      · exact z.elim
    · exact z.elim
end
/-! ### statement by statement: what stands behind is told by J alone -/
theorem seq_rule {a b : WS} {ρ : En} {h : MH} {d : MD} (J : En → MH → Prop) (main : ∀ B : WS, (∀ ρ h, J ρ h → B ρ h d) → a ρ h (nxD d B)) (rest : ∀ ρ h, J ρ h → b ρ h d) : wSeq a b ρ h d := main b rest
end MM
end
section
namespace MM
open PySem PySem.Spec PyProof.Rows L2
/-! ### texts, plainly -/
theorem spl_ne (S : List Nat) : ∀ (l : List Nat) (k : Nat) (acc : List Nat), TL.spl S k acc l ≠ []
  | [], k, acc => by rw [TL.spl_nil]; simp
  | c :: r, 0, acc => by
    unfold TL.spl
    split
    · simp
    · exact spl_ne S r _ _
  | c :: r, k + 1, acc => by
    unfold TL.spl
    exact spl_ne S r _ _
theorem joinL_cons {S p : List Nat} : ∀ {ps : List (List Nat)}, ps ≠ [] → TL.joinL S (p :: ps) = p ++ (S ++ TL.joinL S ps)
  | [], h => absurd rfl h
  | q :: r, _ => rfl
theorem join_spl (S : List Nat) (hS : S ≠ []) : ∀ (n : Nat) (l acc : List Nat), l.length ≤ n → TL.joinL S (TL.spl S 0 acc l) = acc ++ l
  | _, [], acc, _ => by rw [TL.spl_nil]; simp [TL.joinL]
  | 0, c :: r, acc, h => by simp at h
  | n + 1, c :: r, acc, h => by
    simp only [List.length_cons] at h
    by_cases e : TL.pre S (c :: r) = true
    · rw [TL.spl_hit e, TL.spl_pass, joinL_cons (spl_ne _ _ _ _), join_spl S hS n _ [] (by rw [List.length_drop]; omega)]
      have hl : 0 < S.length := List.length_pos_iff.mpr hS
      have e2 : (c :: r).take S.length = S := by simpa [TL.pre] using e
      have e3 : r.drop (S.length - 1) = (c :: r).drop S.length := by
        obtain ⟨m, hm⟩ : ∃ m, S.length = m + 1 := ⟨S.length - 1, by omega⟩
        rw [hm]
        simp
      rw [e3, List.nil_append]
      have := List.take_append_drop S.length (c :: r)
      rw [e2] at this
      rw [this]
    · rw [TL.spl_miss (by simpa using e), join_spl S hS n r _ (by omega)]
      simp
/-- a text that is cut and joined again -/
theorem join_split {z y : Str} (hy : TL.tl y ≠ []) (hk : y.cps.all (· < 256) = true) : Txt.join y (Txt.split z y) = z := by
  refine TL.ext_tl ?_
  rw [TL.join_eq, TL.tl_join, TL.split_spl z y hy (TL.kind_ok hk)]
  exact join_spl _ hy _ _ [] (Nat.le_refl _)
theorem join_nil {a : Str} : Txt.join a [] = "" := by rw [TL.join_eq]; rfl
/-- how long a joined text is -/
theorem join_len {a : Str} : ∀ {zs : List Str}, zs ≠ [] → (Txt.join a zs).length + a.length = (zs.map (·.length)).sum + zs.length * a.length := by
  intro zs
  rw [TL.join_eq]
  induction zs with
  | nil => intro h; exact absurd rfl h
  | cons z zs ih =>
    intro _
    cases zs with
    | nil =>
      show z.length + a.length = _
      simp
    | cons y r =>
      have h := ih (by simp)
      show (z ++ a ++ Str.join a (y :: r)).length + a.length = _
      simp only [Str.length_append]
      simp only [List.map_cons, List.sum_cons, List.length_cons, Nat.add_mul] at h ⊢
      omega
theorem join_len' {a : Str} {zs : List Str} : (Txt.join a zs).length ≤ (zs.map (·.length)).sum + zs.length * a.length - a.length := by
  by_cases h : zs = []
  · subst h
    rw [join_nil]
    exact Nat.zero_le _
  · have := join_len (a := a) h
    omega
theorem split_ne {z y : Str} : Txt.split z y ≠ [] := fun e => by
  have := PyProof.Rows.split_pos z y
  rw [e] at this
  simp at this
/-- what a text's parts have in all -/
theorem split_sum {z y : Str} (hy : TL.tl y ≠ []) (hk : y.cps.all (· < 256) = true) : ((Txt.split z y).map (·.length)).sum + (Txt.split z y).length * y.length = z.length + y.length := by
  rw [← join_len split_ne, join_split hy hk]
/-! ### signs below 128 -/
def asc (z : Str) : Bool := z.cps.toList.all fun c => decide (c < 128)
theorem asc_iff {z : Str} : asc z = true ↔ ∀ c ∈ TL.tl z, c < 128 := by
  unfold asc
  rw [List.all_eq_true]
  simp only [decide_eq_true_eq]
theorem asc_ok {z : Str} (h : asc z = true) : PyData.strOk z = true := by
  unfold PyData.strOk
  rw [Array.all_eq_true']
  intro c hc
  have := asc_iff.mp h c (by simpa [TL.tl] using hc)
  simp only [decide_eq_true_eq]
  omega
theorem asc_append {a b : Str} (ha : asc a = true) (hb : asc b = true) : asc (a ++ b) = true := by
  rw [asc_iff] at *
  intro c hc
  rw [TL.tl_append] at hc
  exact (List.mem_append.mp hc).elim (ha c) (hb c)
theorem asc_of {z : Str} {s : String} (e : z = Str.ofString s) (h : asc (Str.ofString s) = true) : asc z = true := by rw [e]; exact h
theorem joinL_mem {S : List Nat} {c : Nat} : ∀ {ps : List (List Nat)}, c ∈ TL.joinL S ps → c ∈ S ∨ ∃ p ∈ ps, c ∈ p
  | [], h => by cases h
  | [p], h => .inr ⟨p, by simp, h⟩
  | p :: q :: r, h => by
    have h : c ∈ p ++ (S ++ TL.joinL S (q :: r)) := h
    simp only [List.mem_append] at h
    rcases h with h | h | h
    · exact .inr ⟨p, by simp, h⟩
    · exact .inl h
    · exact (joinL_mem h).imp_right fun ⟨p', m, z⟩ => ⟨p', List.mem_cons_of_mem _ m, z⟩
theorem asc_join {a : Str} {zs : List Str} (ha : asc a = true) (h : ∀ z ∈ zs, asc z = true) : asc (Txt.join a zs) = true := by
  rw [asc_iff] at *
  intro c hc
  rw [TL.join_eq, TL.tl_join] at hc
  rcases joinL_mem hc with hc | ⟨p, m, hc⟩
  · exact ha c hc
  · obtain ⟨z, hz, rfl⟩ := List.mem_map.mp m
    exact asc_iff.mp (h z hz) c hc
theorem spl_sub2 (S : List Nat) : ∀ (l : List Nat) (k : Nat) (acc : List Nat), ∀ p ∈ TL.spl S k acc l, ∀ c ∈ p, c ∈ acc ∨ c ∈ l
  | [], _, acc, p, m, c, hc => by
    simp only [TL.spl, List.mem_singleton] at m
    subst m
    exact .inl hc
  | x :: r, 0, acc, p, m, c, hc => by
    unfold TL.spl at m
    split at m
    · rcases List.mem_cons.mp m with rfl | m
      · exact .inl hc
      · rcases spl_sub2 S r _ _ p m c hc with z | z
        · cases z
        · exact .inr (List.mem_cons_of_mem _ z)
    · rcases spl_sub2 S r _ _ p m c hc with z | z
      · rcases List.mem_append.mp z with z | z
        · exact .inl z
        · exact .inr (by simp at z; simp [z])
      · exact .inr (List.mem_cons_of_mem _ z)
  | x :: r, k + 1, acc, p, m, c, hc => by
    unfold TL.spl at m
    rcases spl_sub2 S r _ _ p m c hc with z | z
    · exact .inl z
    · exact .inr (List.mem_cons_of_mem _ z)
theorem split_mem {z y x : Str} (hy : TL.tl y ≠ []) (hk : y.cps.all (· < 256) = true) (m : x ∈ Txt.split z y) : ∀ c ∈ TL.tl x, c ∈ TL.tl z := fun c hc => by
  have e := TL.split_spl z y hy (TL.kind_ok hk)
  have m2 : TL.tl x ∈ TL.spl (TL.tl y) 0 [] (TL.tl z) := by
    rw [← e]
    exact List.mem_map.mpr ⟨x, m, rfl⟩
  rcases spl_sub2 (TL.tl y) (TL.tl z) 0 [] (TL.tl x) m2 c hc with q | q
  · cases q
  · exact q
theorem asc_split {z y : Str} (hy : TL.tl y ≠ []) (hk : y.cps.all (· < 256) = true) (h : asc z = true) : ∀ x ∈ Txt.split z y, asc x = true := fun x m =>
  asc_iff.mpr fun c hc => asc_iff.mp h c (split_mem hy hk m c hc)
theorem tl_cut {z : Str} {l u : Option Int} : TL.tl (cutS z l u) = ((TL.tl z).drop (HT.sIx z.length 0 l)).take (HT.sIx z.length z.length u - HT.sIx z.length 0 l) := rfl
theorem asc_cut {z : Str} {l u : Option Int} (h : asc z = true) : asc (cutS z l u) = true := asc_iff.mpr fun c hc => by
  rw [tl_cut] at hc
  exact asc_iff.mp h c (List.mem_of_mem_drop (List.mem_of_mem_take hc))
theorem tl_cutTo {z : Str} {s : Nat} (h : s ≤ z.length) : TL.tl (cutS z none (some (s : Int))) = (TL.tl z).take s := by
  have b : HT.sIx z.length z.length (some (s : Int)) = s := by
    have : ¬ (s : Int) < 0 := by omega
    simp [HT.sIx, this]
    omega
  rw [tl_cut, b]
  simp [HT.sIx]
theorem tl_cutFrom {z : Str} {s : Nat} : TL.tl (cutS z (some (s : Int)) none) = (TL.tl z).drop s := by
  have b : HT.sIx z.length 0 (some (s : Int)) = min s z.length := by
    have : ¬ (s : Int) < 0 := by omega
    simp [HT.sIx, this]
  rw [tl_cut, b]
  have a : HT.sIx z.length z.length none = z.length := rfl
  rw [a, TL.len_tl]
  rw [List.take_of_length_le (by rw [List.length_drop]; exact Nat.le_refl _)]
  by_cases c : s ≤ (TL.tl z).length
  · rw [Nat.min_eq_left c]
  · simp only [Nat.min_eq_right (Nat.le_of_not_le c), List.drop_of_length_le (Nat.le_refl _), List.drop_of_length_le (Nat.le_of_not_le c)]
theorem len_cutTo {z : Str} {s : Nat} (h : s ≤ z.length) : (cutS z none (some (s : Int))).length = s := by
  rw [TL.len_tl, tl_cutTo h, List.length_take, ← TL.len_tl]
  omega
theorem len_cutFrom {z : Str} {s : Nat} : (cutS z (some (s : Int)) none).length = z.length - s := by
  rw [TL.len_tl, tl_cutFrom, List.length_drop, ← TL.len_tl]
theorem dig_of {z : Str} (a : asc z = true) (d : Txt.isdigit z = true) : z.cps.toList ≠ [] ∧ PySem.NumText.AllDigits z.cps.toList := by
  unfold Txt.isdigit at d
  rw [Bool.and_eq_true, decide_eq_true_eq] at d
  obtain ⟨l, d⟩ := d
  refine ⟨fun e => ?_, fun c hc => ?_⟩
  · have : z.length = z.cps.toList.length := TL.len_tl z
    rw [e] at this
    simp at this
    omega
  · have hd := Array.all_eq_true'.mp d c (by simpa using hc)
    have h := PySem.W.os_isdigit (asc_iff.mp a c hc)
    have e : Txt.isdigit ⟨#[c]⟩ = true := by
      unfold Txt.isdigit
      simp [Str.length, hd]
    rw [e] at h
    simpa using h.symm
end MM
end
section
namespace MM
open PySem PySem.Spec PyProof.Rows L2
/-! ### rows, plainly: names, tests, deeds, texts -/
def lowB (c : Nat) : Bool := decide (97 ≤ c ∧ c ≤ 122)
def keptL : List Str := ["if", "and", "not", "do", "then", "yes", "no"]
def rowKindL : List Str := ["open", "put", "close", "drop", "sweep", "work", "erase", "fall"]
def ofUpL : List Str := ["open", "put", "close", "drop", "sweep", "work"]
def testL : List Str := ["old", "full", "has", "laid", "ready", "bound"]
def ntestL : List Str := ["phase", "at"]
def deedL : List Str := ["keep", "clear", "share", "wipe", "bind", "show", "hide"]
def ndeedL : List Str := ["to", "turn"]
def ofPutL : List Str := ["has", "laid", "keep", "share"]
def ofTheL : List Str := ["phase", "old", "full", "to", "clear", "bind"]
def nameB (z : Str) : Bool := decide (1 ≤ z.length ∧ z.length ≤ 4 ∧ z ∉ keptL) && z.cps.toList.all lowB
def belongsB (w k : Str) : Bool := if w ∈ ofPutL then decide (k = "put") else !decide (w ∈ ofTheL) || decide (k ∈ ofUpL)
def toldB (ws : List Str) (plain named : List Str) (k : Str) : Bool := match ws with
  | [w] => decide (w ∈ plain) && belongsB w k
  | [w, n] => decide (w ∈ named) && nameB n && belongsB w k
  | _ => false
def bareT (ws : List Str) : List Str := match ws with
  | w :: r => if w = "not" then r else w :: r
  | [] => []
def testB (k z : Str) : Bool := toldB (bareT (Txt.split z " ")) testL ntestL k
def deedB (k z : Str) : Bool := toldB (Txt.split z " ") deedL ndeedL k
structure RowD where
  kind : Str
  tests : List Str
  deeds : List Str
  answer : Bool
deriving DecidableEq
def RowD.ok (r : RowD) : Bool := decide (r.kind ∈ rowKindL) && r.tests.all (testB r.kind) && r.deeds.all (deedB r.kind)
abbrev rowNs : List Str := ["kind", "tests", "deeds", "answer"]
def RowV (C : Addr) (r : RowD) : MV := .obj C rowNs [.str r.kind, .tup (r.tests.map .str), .tup (r.deeds.map .str), .bl r.answer]
def yesT (b : Bool) : Str := if b then "yes" else "no"
/-- the parts of a row's text -/
def rowPs (r : RowD) : List Str := [r.kind] ++ (if r.tests = [] then ([] : List Str) else ([Str.ofString "if", Txt.join " and " r.tests] : List Str)) ++ (if r.deeds = [] then ([] : List Str) else ([Str.ofString "do", Txt.join " then " r.deeds] : List Str)) ++ [yesT r.answer]
def rowT (r : RowD) : Str := Txt.join " " (rowPs r)
/-- words between which a word stands -/
def partG (s : Str) : List Str → List (List Str)
  | [] => [[]]
  | w :: r => if w = s then [] :: partG s r else match partG s r with
    | [] => [[w]]
    | g :: gs => (w :: g) :: gs
def partedT (ws : List Str) (s : Str) : List Str := (partG s ws).map (Txt.join " ")
/-- words with a word between -/
def interW (s : Str) : List (List Str) → List Str
  | [] => []
  | [g] => g
  | g :: h :: r => g ++ s :: interW s (h :: r)
def deedW (ms : List Str) : List Str × List Str := match ms.findIdx? (fun w : Str => decide (w = Str.ofString "do")) with
  | some i => (ms.take i, partedT (ms.drop (i + 1)) "then")
  | none => (ms, [])
/-- the row that a text tells, by its words -/
def readW (ws : List Str) : Option RowD := match ws with
  | k :: r => match r.getLast? with
    | none => none
    | some y => if y ∈ (["yes", "no"] : List Str) then
        match (deedW r.dropLast).1 with
        | [] => let w : RowD := ⟨k, [], (deedW r.dropLast).2, decide (y = "yes")⟩; if w.ok then some w else none
        | i :: ts => if i = "if" then let w : RowD := ⟨k, partedT ts "and", (deedW r.dropLast).2, decide (y = "yes")⟩; if w.ok then some w else none else none
      else none
  | [] => none
def readR (z : Str) : Option RowD := readW (Txt.split z " ")
/-! #### texts and words -/
theorem spl_free1 {s : Nat} : ∀ (l acc : List Nat), s ∉ acc → ∀ p ∈ TL.spl [s] 0 acc l, s ∉ p
  | [], acc, h, p, m => by
    rw [TL.spl_nil] at m
    simp at m
    subst m
    exact h
  | c :: r, acc, h, p, m => by
    by_cases e : c = s
    · subst e
      have hp : TL.pre [c] (c :: r) = true := by simp [TL.pre]
      rw [TL.spl_hit hp] at m
      rcases List.mem_cons.mp m with rfl | m
      · exact h
      · exact spl_free1 r [] (by simp) p m
    · have hp : TL.pre [s] (c :: r) = false := TL.pre_of_head [] r e
      rw [TL.spl_miss hp] at m
      exact spl_free1 r (acc ++ [c]) (by simp [h, Ne.symm e]) p m
theorem tl_sp : TL.tl (Str.ofString " ") = [32] := by decide +kernel
theorem sp_k : (Str.ofString " ").cps.all (· < 256) = true := by decide +kernel
theorem word_free {z : Str} : ∀ p ∈ Txt.split z " ", 32 ∉ TL.tl p := fun p m => by
  have e := TL.split_spl z (Str.ofString " ") (by rw [tl_sp]; simp) (TL.kind_ok sp_k)
  rw [tl_sp] at e
  exact spl_free1 (TL.tl z) [] (by simp) (TL.tl p) (by rw [← e]; exact List.mem_map.mpr ⟨p, m, rfl⟩)
theorem join_sp (z : Str) : Txt.join " " (Txt.split z " ") = z := join_split (by rw [tl_sp]; simp) sp_k
theorem split_sp {ws : List Str} (hn : ws ≠ []) (hf : ∀ p ∈ ws, 32 ∉ TL.tl p) : Txt.split (Txt.join " " ws) " " = ws := TL.split_join tl_sp sp_k hn hf
theorem joinL_append {S : List Nat} : ∀ {a b : List (List Nat)}, a ≠ [] → b ≠ [] → TL.joinL S (a ++ b) = TL.joinL S a ++ (S ++ TL.joinL S b)
  | [], _, h, _ => absurd rfl h
  | [p], b, _, h => by
    rw [List.singleton_append, joinL_cons h]
    rfl
  | p :: q :: r, b, _, h => by
    rw [List.cons_append, joinL_cons (by simp), joinL_append (a := q :: r) (by simp) h, joinL_cons (ps := q :: r) (by simp)]
    simp
theorem join_app {a : Str} {xs ys : List Str} (hx : xs ≠ []) (hy : ys ≠ []) : Txt.join a (xs ++ ys) = Txt.join a xs ++ a ++ Txt.join a ys := by
  refine TL.ext_tl ?_
  rw [TL.join_eq, TL.join_eq, TL.join_eq, TL.tl_append, TL.tl_append, TL.tl_join, TL.tl_join, TL.tl_join, List.map_append, joinL_append (by simpa using hx) (by simpa using hy), List.append_assoc]
theorem join_one {a z : Str} : Txt.join a [z] = z := by rw [TL.join_eq]; rfl
theorem join_cons2 {a z : Str} {ys : List Str} (h : ys ≠ []) : Txt.join a (z :: ys) = z ++ a ++ Txt.join a ys := by
  have := join_app (a := a) (xs := [z]) (ys := ys) (by simp) h
  rw [join_one] at this
  exact this
theorem interW_ne {s : Str} : ∀ {gs : List (List Str)}, gs ≠ [] → (∀ g ∈ gs, g ≠ []) → interW s gs ≠ []
  | [], h, _ => absurd rfl h
  | [g], _, h => h g (by simp)
  | g :: k :: r, _, h => by
    show g ++ s :: interW s (k :: r) ≠ []
    simp
/-- parts joined by a word with blanks about it: the words, that word between -/
theorem join_inter {s : String} {S : Str} (hS : S = Str.ofString " " ++ Str.ofString s ++ Str.ofString " ") : ∀ {gs : List (List Str)}, gs ≠ [] → (∀ g ∈ gs, g ≠ []) → Txt.join S (gs.map (Txt.join " ")) = Txt.join " " (interW s gs)
  | [], h, _ => absurd rfl h
  | [g], _, _ => by
    rw [List.map_singleton, join_one]
    rfl
  | g :: k :: r, _, h => by
    have ih := join_inter hS (gs := k :: r) (by simp) fun g m => h g (List.mem_cons_of_mem _ m)
    have hn := interW_ne (s := s) (gs := k :: r) (by simp) fun g m => h g (List.mem_cons_of_mem _ m)
    rw [List.map_cons, join_cons2 (by simp), ih]
    show _ = Txt.join " " (g ++ Str.ofString s :: interW s (k :: r))
    rw [join_app (h g (by simp)) (by simp), join_cons2 hn, hS]
    simp only [Str.append_assoc]
theorem partG_inter {s : Str} : ∀ {gs : List (List Str)}, gs ≠ [] → (∀ g ∈ gs, s ∉ g) → partG s (interW s gs) = gs
  | [], h, _ => absurd rfl h
  | [g], _, h => by
    have hg := h g (by simp)
    show partG s g = [g]
    clear h
    rename_i hne
    clear hne
    induction g with
    | nil => rfl
    | cons w r ih =>
      simp only [List.mem_cons, not_or] at hg
      unfold partG
      rw [if_neg (Ne.symm hg.1), ih hg.2]
  | g :: k :: r, _, h => by
    have ih := partG_inter (gs := k :: r) (by simp) fun g m => h g (List.mem_cons_of_mem _ m)
    have hg := h g (by simp)
    show partG s (g ++ s :: interW s (k :: r)) = _
    clear h
    rename_i hne
    clear hne
    induction g with
    | nil =>
      rw [List.nil_append]
      unfold partG
      rw [if_pos rfl, ih]
    | cons w t iht =>
      simp only [List.mem_cons, not_or] at hg
      rw [List.cons_append]
      unfold partG
      rw [if_neg (Ne.symm hg.1), iht hg.2]
/-! #### what is read of a row's text is the row -/
theorem toldB_mem {ws plain named : List Str} {k : Str} (h : toldB ws plain named k = true) : ∀ w ∈ ws, w ∈ plain ∨ w ∈ named ∨ nameB w = true := by
  unfold toldB at h
  split at h
  all_goals simp only [Bool.and_eq_true, decide_eq_true_eq, Bool.false_eq_true] at h
  · intro w m
    simp at m
    subst m
    exact .inl h.1
  · intro w m
    simp only [List.mem_cons, List.mem_nil_iff, or_false] at m
    rcases m with rfl | rfl
    · exact .inr (.inl h.1.1)
    · exact .inr (.inr h.1.2)
theorem name_kept {w : Str} (h : nameB w = true) : w ∉ keptL := by
  simp only [nameB, Bool.and_eq_true, decide_eq_true_eq] at h
  exact h.1.2.2
theorem told_no {ws plain named : List Str} {k s : Str} (h : toldB ws plain named k = true) (h1 : s ∉ plain) (h2 : s ∉ named) (h3 : s ∈ keptL) : s ∉ ws := fun m => by
  rcases toldB_mem h s m with z | z | z
  · exact h1 z
  · exact h2 z
  · exact name_kept z h3
theorem test_no {k z s : Str} (h : testB k z = true) (h1 : s ∉ testL) (h2 : s ∉ ntestL) (h3 : s ∈ keptL) (h4 : s ≠ "not") : s ∉ Txt.split z " " := fun m => by
  unfold testB bareT at h
  split at h
  · rename_i w r e
    rw [e] at m
    split at h
    · rename_i ew
      subst ew
      rcases List.mem_cons.mp m with m | m
      · exact h4 m
      · exact told_no h h1 h2 h3 m
    · exact told_no h h1 h2 h3 m
  · cases h
theorem deed_no {k z s : Str} (h : deedB k z = true) (h1 : s ∉ deedL) (h2 : s ∉ ndeedL) (h3 : s ∈ keptL) : s ∉ Txt.split z " " := told_no h h1 h2 h3
theorem flat_join : ∀ {gs : List (List Str)}, (∀ g ∈ gs, g ≠ []) → Txt.join " " (gs.map (Txt.join " ")) = Txt.join " " gs.flatten
  | [], _ => rfl
  | [g], _ => by simp [join_one]
  | g :: k :: r, h => by
    have ih := flat_join (gs := k :: r) fun g m => h g (List.mem_cons_of_mem _ m)
    have hk := h k (by simp)
    rw [List.map_cons, join_cons2 (by simp), ih, List.flatten_cons (l := g), join_app (h g (by simp))]
    simp [hk]
def spW (z : Str) : List Str := Txt.split z " "
theorem spW_ne {zs : List Str} : ∀ g ∈ zs.map spW, g ≠ [] := fun g m => by
  obtain ⟨z, _, rfl⟩ := List.mem_map.mp m
  exact split_ne
theorem spW_back {zs : List Str} : (zs.map spW).map (Txt.join " ") = zs := by
  rw [List.map_map]
  refine (List.map_congr_left fun z m => ?_).trans (List.map_id zs)
  exact join_sp z
theorem join_spW {s : String} {S : Str} (hS : S = Str.ofString " " ++ Str.ofString s ++ Str.ofString " ") {zs : List Str} (h : zs ≠ []) : Txt.join S zs = Txt.join " " (interW s (zs.map spW)) := by
  have := join_inter hS (gs := zs.map spW) (by simpa using h) spW_ne
  rw [spW_back] at this
  exact this
theorem parted_spW {s : Str} {zs : List Str} (h : zs ≠ []) (hs : ∀ z ∈ zs, s ∉ Txt.split z " ") : partedT (interW s (zs.map spW)) s = zs := by
  unfold partedT
  rw [partG_inter (by simpa using h) fun g m => by
    obtain ⟨z, mz, rfl⟩ := List.mem_map.mp m
    exact hs z mz]
  exact spW_back
theorem interW_mem {s w : Str} : ∀ {gs : List (List Str)}, w ∈ interW s gs → w = s ∨ ∃ g ∈ gs, w ∈ g
  | [], h => by cases h
  | [g], h => .inr ⟨g, by simp, h⟩
  | g :: k :: r, h => by
    have h : w ∈ g ++ s :: interW s (k :: r) := h
    rcases (List.mem_append).mp h with h | h
    · exact .inr ⟨g, by simp, h⟩
    · rcases List.mem_cons.mp h with h | h
      · exact .inl h
      · rcases interW_mem h with h | ⟨p, m, h⟩
        · exact .inl h
        · exact .inr ⟨p, List.mem_cons_of_mem _ m, h⟩
def testW (r : RowD) : List Str := if r.tests = [] then ([] : List Str) else Str.ofString "if" :: interW "and" (r.tests.map spW)
def deedWs (r : RowD) : List Str := if r.deeds = [] then ([] : List Str) else Str.ofString "do" :: interW "then" (r.deeds.map spW)
def allW (r : RowD) : List Str := r.kind :: (testW r ++ deedWs r ++ [yesT r.answer])
theorem rowT_all (r : RowD) : rowT r = Txt.join " " (allW r) := by
  have e1 : Str.ofString " and " = Str.ofString " " ++ Str.ofString "and" ++ Str.ofString " " := by decide +kernel
  have e2 : Str.ofString " then " = Str.ofString " " ++ Str.ofString "then" ++ Str.ofString " " := by decide +kernel
  have n1 : r.tests ≠ [] → interW "and" (r.tests.map spW) ≠ [] := fun h => interW_ne (by simpa using h) spW_ne
  have n2 : r.deeds ≠ [] → interW "then" (r.deeds.map spW) ≠ [] := fun h => interW_ne (by simpa using h) spW_ne
  unfold rowT rowPs allW testW deedWs
  by_cases h1 : r.tests = [] <;> by_cases h2 : r.deeds = []
  · simp [h1, h2]
  · rw [if_pos h1, if_pos h1, if_neg h2, if_neg h2, join_spW e2 h2]
    have := flat_join (gs := [[r.kind], [Str.ofString "do"], interW "then" (r.deeds.map spW), [yesT r.answer]]) (by simp [n2 h2])
    simpa [join_one] using this
  · rw [if_neg h1, if_neg h1, if_pos h2, if_pos h2, join_spW e1 h1]
    have := flat_join (gs := [[r.kind], [Str.ofString "if"], interW "and" (r.tests.map spW), [yesT r.answer]]) (by simp [n1 h1])
    simpa [join_one] using this
  · rw [if_neg h1, if_neg h1, if_neg h2, if_neg h2, join_spW e1 h1, join_spW e2 h2]
    have := flat_join (gs := [[r.kind], [Str.ofString "if"], interW "and" (r.tests.map spW), [Str.ofString "do"], interW "then" (r.deeds.map spW), [yesT r.answer]]) (by simp [n1 h1, n2 h2])
    simpa [join_one] using this
theorem kind_free {k : Str} (h : k ∈ rowKindL) : 32 ∉ TL.tl k := by
  have : ∀ k ∈ rowKindL, 32 ∉ TL.tl k := by decide +kernel
  exact this k h
theorem RowD.ok_iff {r : RowD} : r.ok = true ↔ r.kind ∈ rowKindL ∧ (∀ z ∈ r.tests, testB r.kind z = true) ∧ ∀ z ∈ r.deeds, deedB r.kind z = true := by
  unfold RowD.ok
  rw [Bool.and_eq_true, Bool.and_eq_true, decide_eq_true_eq, List.all_eq_true, List.all_eq_true, and_assoc]
theorem inter_free {s : Str} {zs : List Str} (hs : 32 ∉ TL.tl s) : ∀ w ∈ interW s (zs.map spW), 32 ∉ TL.tl w := fun w m => by
  rcases interW_mem m with rfl | ⟨g, mg, m⟩
  · exact hs
  · obtain ⟨z, _, rfl⟩ := List.mem_map.mp mg
    exact word_free w m
theorem split_row {r : RowD} (h : r.kind ∈ rowKindL) : Txt.split (rowT r) " " = allW r := by
  rw [rowT_all]
  refine split_sp (by simp [allW]) fun p m => ?_
  unfold allW at m
  rcases List.mem_cons.mp m with rfl | m
  · exact kind_free h
  rcases List.mem_append.mp m with m | m
  · rcases List.mem_append.mp m with m | m
    · unfold testW at m
      split at m
      · cases m
      · rcases List.mem_cons.mp m with rfl | m
        · decide +kernel
        · exact inter_free (by decide +kernel) p m
    · unfold deedWs at m
      split at m
      · cases m
      · rcases List.mem_cons.mp m with rfl | m
        · decide +kernel
        · exact inter_free (by decide +kernel) p m
  · simp at m
    subst m
    unfold yesT
    split <;> decide +kernel
theorem do_tests {r : RowD} (h : r.ok = true) : Str.ofString "do" ∉ testW r := fun m => by
  obtain ⟨_, ht, _⟩ := RowD.ok_iff.mp h
  unfold testW at m
  split at m
  · cases m
  · rcases List.mem_cons.mp m with m | m
    · exact absurd m (by decide +kernel)
    · rcases interW_mem m with m | ⟨g, mg, m⟩
      · exact absurd m (by decide +kernel)
      · obtain ⟨z, mz, rfl⟩ := List.mem_map.mp mg
        exact test_no (ht z mz) (by decide +kernel) (by decide +kernel) (by decide +kernel) (by decide +kernel) m
theorem deedW_row {r : RowD} (h : r.ok = true) : deedW (testW r ++ deedWs r) = (testW r, r.deeds) := by
  have nd := do_tests h
  obtain ⟨_, _, hd⟩ := RowD.ok_iff.mp h
  have f1 : (testW r).findIdx? (fun w : Str => decide (w = Str.ofString "do")) = none := List.findIdx?_eq_none_iff.mpr fun w m => decide_eq_false fun e => nd (e ▸ m)
  unfold deedWs
  split
  · rename_i e
    unfold deedW
    rw [List.append_nil, f1, e]
  · rename_i e
    have f2 : (testW r ++ Str.ofString "do" :: interW "then" (r.deeds.map spW)).findIdx? (fun w : Str => decide (w = Str.ofString "do")) = some (testW r).length := by
      rw [List.findIdx?_append, f1]
      simp [List.findIdx?_cons]
    unfold deedW
    rw [f2]
    simp only
    have e2 : (testW r ++ Str.ofString "do" :: interW "then" (r.deeds.map spW)).drop ((testW r).length + 1) = interW "then" (r.deeds.map spW) := by
      rw [List.drop_append]
      simp
    rw [e2, parted_spW e fun z m => deed_no (hd z m) (by decide +kernel) (by decide +kernel) (by decide +kernel)]
    simp
theorem readR_row {r : RowD} (h : r.ok = true) : readR (rowT r) = some r := by
  obtain ⟨hk, ht, _⟩ := RowD.ok_iff.mp h
  unfold readR
  rw [split_row hk]
  unfold allW readW
  simp only
  have e1 : (testW r ++ deedWs r ++ [yesT r.answer]).getLast? = some (yesT r.answer) := by simp
  have e2 : (testW r ++ deedWs r ++ [yesT r.answer]).dropLast = testW r ++ deedWs r := by simp
  have e3 : yesT r.answer ∈ (["yes", "no"] : List Str) := by
    unfold yesT
    split <;> simp
  have e4 : decide (yesT r.answer = Str.ofString "yes") = r.answer := by
    unfold yesT
    cases r.answer <;> decide +kernel
  rw [e1, e2]
  simp only [e3, if_true, deedW_row h, e4]
  by_cases c : r.tests = []
  · have e5 : testW r = [] := by unfold testW; rw [if_pos c]
    rw [e5]
    simp only
    have : (⟨r.kind, [], r.deeds, r.answer⟩ : RowD) = r := by rw [← c]
    rw [this, if_pos h]
  · have e5 : testW r = Str.ofString "if" :: interW "and" (r.tests.map spW) := by unfold testW; rw [if_neg c]
    rw [e5]
    simp only [if_true]
    rw [parted_spW c fun z m => test_no (ht z m) (by decide +kernel) (by decide +kernel) (by decide +kernel) (by decide +kernel)]
    rw [if_pos h]
theorem rowT_inj {r s : RowD} (hr : r.ok = true) (hs : s.ok = true) (e : rowT r = rowT s) : r = s := by
  have back := readR_row hr
  rw [e, readR_row hs] at back
  exact Option.some.inj back.symm
section
variable {C : Addr} {r : RowD} {h : MH}
@[simp ↓] theorem insK_row {k : Addr → List (Str × MV) → Prop} : insK h (RowV C r) k = k C [("kind", .str r.kind), ("tests", .tup (r.tests.map .str)), ("deeds", .tup (r.deeds.map .str)), ("answer", .bl r.answer)] := rfl
@[simp ↓] theorem typK_row {k : Value → Prop} : typK h (RowV C r) k = k (.ref C) := rfl
theorem rowV_inj {C D : Addr} {r s : RowD} (e : RowV C r = RowV D s) : r = s := by
  simp only [RowV, MV.obj.injEq, List.cons.injEq, MV.str.injEq, MV.tup.injEq, MV.bl.injEq] at e
  obtain ⟨_, _, h1, h2, h3, h4, _⟩ := e
  have i : ∀ {as bs : List Str}, as.map MV.str = bs.map MV.str → as = bs := fun {as bs} e => by
    have := congrArg (List.map unS) e
    rwa [strs_is.2, strs_is.2] at this
  cases r
  cases s
  simp only at h1 h2 h3 h4
  rw [h1, i h2, i h3, h4]
end
/-! #### the words of a test, of a deed -/
theorem name_free {n : Str} (h : nameB n = true) : 32 ∉ TL.tl n := fun m => by
  unfold nameB at h
  have := List.all_eq_true.mp (Bool.and_eq_true_iff.mp h).2 32 m
  cases this
theorem split_one {w : Str} (h : 32 ∉ TL.tl w) : Txt.split w " " = [w] := by
  have := split_sp (ws := [w]) (by simp) (by simpa using h)
  rwa [join_one] at this
theorem split_two {w n : Str} (h : 32 ∉ TL.tl w) (h2 : 32 ∉ TL.tl n) : Txt.split (w ++ " " ++ n) " " = [w, n] := by
  have := split_sp (ws := [w, n]) (by simp) (fun p m => by
    simp only [List.mem_cons, List.mem_nil_iff, or_false] at m
    rcases m with rfl | rfl
    · exact h
    · exact h2)
  rwa [join_cons2 (by simp), join_one] at this
theorem split_not {z : Str} : Txt.split (Str.ofString "not " ++ z) " " = Str.ofString "not" :: Txt.split z " " := by
  have h : ∀ p ∈ Str.ofString "not" :: Txt.split z " ", 32 ∉ TL.tl p := fun p m => by
    rcases List.mem_cons.mp m with rfl | m
    · decide +kernel
    · exact word_free p m
  have := split_sp (ws := Str.ofString "not" :: Txt.split z " ") (by simp) h
  rw [join_cons2 split_ne, join_sp] at this
  have e : Str.ofString "not " = Str.ofString "not" ++ Str.ofString " " := by decide +kernel
  rw [e]
  exact this
def namedL : List Str := ["phase", "at", "to", "turn"]
/-- a word, with a name where it has one -/
def Told (ws ns : List Str) (z : Str) : Prop := ∃ w ∈ ws, (w ∉ namedL ∧ z = w) ∨ (w ∈ namedL ∧ ∃ n ∈ ns, z = w ++ " " ++ n)
theorem told_test {ws ns : List Str} {z k : Str} (h : Told ws ns z) (hw : ∀ w ∈ ws, (w ∈ testL ∨ w ∈ ntestL) ∧ belongsB w k = true) (hn : ∀ n ∈ ns, nameB n = true) : testB k z = true ∧ testB k (Str.ofString "not " ++ z) = true := by
  have f1 : ∀ w ∈ testL ++ ntestL, 32 ∉ TL.tl w := by decide +kernel
  have f2 : ∀ w ∈ testL ++ ntestL, w ≠ Str.ofString "not" := by decide +kernel
  have f3 : ∀ w ∈ ntestL, w ∈ namedL := by decide +kernel
  have f4 : ∀ w ∈ testL, w ∉ namedL := by decide +kernel
  obtain ⟨w, mw, z0⟩ := h
  obtain ⟨hw1, hw2⟩ := hw w mw
  have m2 : w ∈ testL ++ ntestL := List.mem_append.mpr hw1
  have key : ∀ r : List Str, Txt.split z " " = w :: r → toldB (w :: r) testL ntestL k = true → testB k z = true ∧ testB k (Str.ofString "not " ++ z) = true := fun r e t => by
    unfold testB
    rw [split_not, e]
    refine ⟨?_, ?_⟩
    · have : bareT (w :: r) = w :: r := if_neg (f2 w m2)
      rw [this]
      exact t
    · exact t
  rcases z0 with ⟨nn, rfl⟩ | ⟨nn, n, mn, rfl⟩
  · have t1 : z ∈ testL := hw1.resolve_right fun m => nn (f3 z m)
    exact key [] (split_one (f1 z m2)) (by simp [toldB, t1, hw2])
  · have t1 : w ∈ ntestL := hw1.resolve_left fun m => f4 w m nn
    exact key [n] (split_two (f1 w m2) (name_free (hn n mn))) (by simp [toldB, t1, hw2, hn n mn])
theorem told_deed {ws ns : List Str} {z k : Str} (h : Told ws ns z) (hw : ∀ w ∈ ws, (w ∈ deedL ∨ w ∈ ndeedL) ∧ belongsB w k = true) (hn : ∀ n ∈ ns, nameB n = true) : deedB k z = true := by
  have f1 : ∀ w ∈ deedL ++ ndeedL, 32 ∉ TL.tl w := by decide +kernel
  have f3 : ∀ w ∈ ndeedL, w ∈ namedL := by decide +kernel
  have f4 : ∀ w ∈ deedL, w ∉ namedL := by decide +kernel
  obtain ⟨w, mw, z0⟩ := h
  obtain ⟨hw1, hw2⟩ := hw w mw
  have m2 : w ∈ deedL ++ ndeedL := List.mem_append.mpr hw1
  unfold deedB
  rcases z0 with ⟨nn, rfl⟩ | ⟨nn, n, mn, rfl⟩
  · have t1 : z ∈ deedL := hw1.resolve_right fun m => nn (f3 z m)
    rw [split_one (f1 z m2)]
    simp [toldB, t1, hw2]
  · have t1 : w ∈ ndeedL := hw1.resolve_left fun m => f4 w m nn
    rw [split_two (f1 w m2) (name_free (hn n mn))]
    simp [toldB, t1, hw2, hn n mn]
def testsW (k : Str) : List Str := (["ready", "bound", "at"] : List Str) ++ (if k = "erase" ∨ k = "fall" then ([] : List Str) else ["phase", "phase", "old", "full"]) ++ (if k = "put" then (["has", "laid", "has"] : List Str) else [])
def deedsW (k : Str) : List Str := (["wipe", "show", "hide", "turn"] : List Str) ++ (if k = "erase" ∨ k = "fall" then ([] : List Str) else ["to", "to", "clear", "bind"]) ++ (if k = "put" then (["keep", "share", "keep"] : List Str) else [])
theorem testsW_ok : ∀ k ∈ rowKindL, ∀ w ∈ testsW k, (w ∈ testL ∨ w ∈ ntestL) ∧ belongsB w k = true := by decide +kernel
theorem deedsW_ok : ∀ k ∈ rowKindL, ∀ w ∈ deedsW k, (w ∈ deedL ∨ w ∈ ndeedL) ∧ belongsB w k = true := by decide +kernel
theorem testsW_len : ∀ k ∈ rowKindL, ∀ w ∈ testsW k, w.length ≤ 5 := by decide +kernel
theorem deedsW_len : ∀ k ∈ rowKindL, ∀ w ∈ deedsW k, w.length ≤ 5 := by decide +kernel
theorem name_len {n : Str} (h : nameB n = true) : n.length ≤ 4 := by
  unfold nameB at h
  exact (of_decide_eq_true (Bool.and_eq_true_iff.mp h).1).2.1
theorem told_len {ws ns : List Str} {z : Str} (h : Told ws ns z) (hw : ∀ w ∈ ws, w.length ≤ 5) (hn : ∀ n ∈ ns, nameB n = true) : z.length ≤ 10 := by
  obtain ⟨w, mw, z0⟩ := h
  have := hw w mw
  rcases z0 with ⟨_, rfl⟩ | ⟨_, n, mn, rfl⟩
  · omega
  · have := name_len (hn n mn)
    have e : (Str.ofString " ").length = 1 := by decide +kernel
    rw [Str.length_append, Str.length_append, e]
    omega
/-- a drawn row, as the laws have it: a tuple -/
def rowL (r : RowD) : MV := .tup [.str r.kind, .lis (r.tests.map .str), .lis (r.deeds.map .str), .bl r.answer]
structure GoodRow (r : RowD) : Prop where
  ok : r.ok = true
  tl : r.tests.length ≤ 4
  dl : r.deeds.length ≤ 4
  ts : ∀ z ∈ r.tests, z.length ≤ 14
  ds : ∀ z ∈ r.deeds, z.length ≤ 14
/-! #### any values -/
def valG : Nat → MV → Bool
  | 0, x => match x with
    | .non | .bl _ => true
    | .int i => decide (i.natAbs ≤ 10 ^ 20)
    | .str z => asc z && decide (z.length ≤ 20)
    | _ => false
  | n + 1, x => match x with
    | .non | .bl _ => true
    | .int i => decide (i.natAbs ≤ 10 ^ 20)
    | .str z => asc z && decide (z.length ≤ 20)
    | .tup xs => decide (xs.length ≤ 5) && xs.all (valG n)
    | .lis xs => decide (xs.length ≤ 5) && xs.all (valG n)
    | _ => false
theorem valG_no : ∀ {n : Nat} {v : MV}, valG n v = true → (match v with | .non | .bl _ | .int _ | .str _ | .tup _ | .lis _ => true | _ => false) = true
  | 0, v, h => by cases v <;> first | rfl | cases h
  | n + 1, v, h => by cases v <;> first | rfl | cases h
/-! #### rows as data -/
theorem low_asc {z : Str} (h : z.cps.toList.all lowB = true) : asc z = true := asc_iff.mpr fun c hc => by
  have := of_decide_eq_true (List.all_eq_true.mp h c hc)
  omega
theorem name_asc {n : Str} (h : nameB n = true) : asc n = true := by
  unfold nameB at h
  exact low_asc (Bool.and_eq_true_iff.mp h).2
theorem told_asc {ws plain named : List Str} {k : Str} (h : toldB ws plain named k = true) (h1 : ∀ w ∈ plain, asc w = true) (h2 : ∀ w ∈ named, asc w = true) : ∀ w ∈ ws, asc w = true := fun w m => by
  rcases toldB_mem h w m with z | z | z
  · exact h1 w z
  · exact h2 w z
  · exact name_asc z
theorem test_asc {k z : Str} (h : testB k z = true) : asc z = true := by
  have a1 : ∀ w ∈ testL, asc w = true := by decide +kernel
  have a2 : ∀ w ∈ ntestL, asc w = true := by decide +kernel
  rw [← join_sp z]
  refine asc_join (by decide +kernel) ?_
  unfold testB bareT at h
  split at h
  · rename_i w r e
    rw [e]
    split at h
    · rename_i ew
      intro p m
      rcases List.mem_cons.mp m with rfl | m
      · rw [ew]
        decide +kernel
      · exact told_asc h a1 a2 p m
    · exact told_asc h a1 a2
  · cases h
theorem deed_asc {k z : Str} (h : deedB k z = true) : asc z = true := by
  rw [← join_sp z]
  exact asc_join (by decide +kernel) (told_asc h (by decide +kernel) (by decide +kernel))
theorem kind_asc {k : Str} (h : k ∈ rowKindL) : asc k = true ∧ k.length ≤ 5 := by
  have : ∀ k ∈ rowKindL, asc k = true ∧ k.length ≤ 5 := by decide +kernel
  exact this k h
theorem Dt.asc' {x : Str} {n : Nat} (h : asc x = true) (l : 10 * x.length + 2 ≤ n) : Dt 0 n (.str x) := by
  refine Dt.str ?_
  unfold strB
  rw [Bool.and_eq_true, decide_eq_true_eq]
  refine ⟨?_, ?_⟩
  · simp only [PyData.canLay0]
    exact asc_ok h
  · simp only [PyData.shown]
    refine Nat.le_trans (StrLaws.reprText_len x fun c hc => ?_) l
    have := asc_iff.mp h c hc
    omega
theorem strs_dt {zs : List Str} (ha : ∀ z ∈ zs, asc z = true) (hl : ∀ z ∈ zs, z.length ≤ 14) (l : zs.length ≤ 4) : Dt 1 700 (.tup (zs.map .str)) ∧ Dt 1 700 (.lis (zs.map .str)) := by
  have h : ∀ y ∈ zs.map MV.str, Dt 0 142 y := fun y m => by
    obtain ⟨z, mz, rfl⟩ := List.mem_map.mp m
    exact Dt.asc' (ha z mz) (by have := hl z mz; omega)
  exact ⟨Dt.tupN h (by simpa using l) (by decide), Dt.lisN h (by simpa using l) (by decide)⟩
theorem GoodRow.dts {r : RowD} (g : GoodRow r) : (Dt 1 700 (.tup (r.tests.map .str)) ∧ Dt 1 700 (.lis (r.tests.map .str))) ∧ Dt 1 700 (.tup (r.deeds.map .str)) ∧ Dt 1 700 (.lis (r.deeds.map .str)) ∧ Dt 0 700 (.str r.kind) := by
  obtain ⟨hk, ht, hd⟩ := RowD.ok_iff.mp g.ok
  obtain ⟨k1, k2⟩ := kind_asc hk
  obtain ⟨a, b⟩ := strs_dt (fun z m => deed_asc (hd z m)) g.ds g.dl
  exact ⟨strs_dt (fun z m => test_asc (ht z m)) g.ts g.tl, a, b, Dt.asc' k1 (by omega)⟩
theorem GoodRow.dtL {r : RowD} (g : GoodRow r) : Dt 2 3000 (rowL r) := by
  obtain ⟨⟨_, a⟩, _, b, k⟩ := g.dts
  refine Dt.tupN (n := 4) (m := 700) (fun y m => ?_) (by simp) (by decide)
  simp only [List.mem_cons, List.mem_nil_iff, or_false] at m
  rcases m with rfl | rfl | rfl | rfl
  · exact k.mono (by decide) (by decide)
  · exact a
  · exact b
  · exact Dt.bl.mono (by decide) (by decide)
theorem GoodRow.dtT {r : RowD} (g : GoodRow r) : Dt 2 3000 (.tup [.str r.kind, .tup (r.tests.map .str), .tup (r.deeds.map .str), .bl r.answer]) := by
  obtain ⟨⟨a, _⟩, b, _, k⟩ := g.dts
  refine Dt.tupN (n := 4) (m := 700) (fun y m => ?_) (by simp) (by decide)
  simp only [List.mem_cons, List.mem_nil_iff, or_false] at m
  rcases m with rfl | rfl | rfl | rfl
  · exact k.mono (by decide) (by decide)
  · exact a
  · exact b
  · exact Dt.bl.mono (by decide) (by decide)
theorem eqvAll_strs : ∀ as bs : List Str, PyData.eqvAll (dMs (as.map MV.str)) (dMs (bs.map MV.str)) = decide (as = bs)
  | [], [] => by simp [dMs, PyData.eqvAll]
  | [], b :: bs => by simp [dMs, PyData.eqvAll]
  | a :: as, [] => by simp [dMs, PyData.eqvAll]
  | a :: as, b :: bs => by
    have ih := eqvAll_strs as bs
    simp only [List.map_cons, dMs, PyData.eqvAll, dM, PyData.eqv, ih]
    rw [Bool.eq_iff_iff]
    simp
theorem eqP_rowL {r s : RowD} : eqP (rowL r) (rowL s) = decide (r = s) := by
  unfold eqP rowL
  simp only [dM, dMs, PyData.eqv, PyData.eqvAll, eqvAll_strs]
  rw [Bool.eq_iff_iff]
  obtain ⟨k, t, d, a⟩ := r
  obtain ⟨k', t', d', a'⟩ := s
  simp
section
variable {r : RowD} {h : MH} {q : QV} {e : QX}
@[simp ↓] theorem bIx_row0 : bIx (rowL r) (.int 0) h q e = q (.str r.kind) h := by
  show bIx (.tup _) (.int 0) h q e = _
  rw [bIx_tup, atIK_0]
  rfl
@[simp ↓] theorem bIx_row1 : bIx (rowL r) (.int 1) h q e = q (.lis (r.tests.map .str)) h := by
  show bIx (.tup _) (.int 1) h q e = _
  rw [bIx_tup, atIK_1]
  rfl
@[simp ↓] theorem bIx_row2 : bIx (rowL r) (.int 2) h q e = q (.lis (r.deeds.map .str)) h := by
  show bIx (.tup _) (.int 2) h q e = _
  rw [bIx_tup, atIK_2]
  rfl
@[simp ↓] theorem bIx_row3 : bIx (rowL r) (.int 3) h q e = q (.bl r.answer) h := by
  show bIx (.tup _) (.int 3) h q e = _
  rw [bIx_tup, atIK_3]
  rfl
end
theorem gmTup_4 {i j k l : Nat} {x y z u : MV} {q : En → MH → Prop} {e : QX} {ρ : En} {h : MH} : gmTup [i, j, k, l] (.tup [x, y, z, u]) ρ h q e = q ((((ρ.set i (some x)).set j (some y)).set k (some z)).set l (some u)) h := by
  show (([] : List MV) = [] ∧ q ((((ρ.set i (some x)).set j (some y)).set k (some z)).set l (some u)) h) = _
  simp
@[simp ↓] theorem gmTup_row {i j k l : Nat} {r : RowD} {q : En → MH → Prop} {e : QX} {ρ : En} {h : MH} : gmTup [i, j, k, l] (rowL r) ρ h q e = q ((((ρ.set i (some (.str r.kind))).set j (some (.lis (r.tests.map .str)))).set k (some (.lis (r.deeds.map .str)))).set l (some (.bl r.answer))) h := gmTup_4
/-- a value that is no object -/
def noO : MV → Bool
  | .non | .bl _ | .int _ | .str _ | .tup _ | .lis _ => true
  | _ => false
theorem kind_len {k : Str} (h : k ∈ rowKindL) : k.length ≤ 1000 := by
  have : ∀ k ∈ rowKindL, k.length ≤ 1000 := by decide +kernel
  exact this k h
/-- the items of a value that is no object -/
def seqV : MV → Option (List MV)
  | .tup xs | .lis xs => some xs
  | _ => none
theorem okInt_no {own : List Addr} {v : MV} {h : MH} (n : noO v = true) : okInt own v h := by
  cases v <;> first | (cases n; done) | exact ⟨_, rfl, fun C z => by cases z⟩
theorem seqM_no {v : MV} {h : MH} (n : noO v = true) : seqM h v = seqV v := by
  cases v <;> first | rfl | cases n
theorem valG_noO {n : Nat} {v : MV} (h : valG n v = true) : noO v = true := by
  cases n <;> cases v <;> first | rfl | cases h
end MM
end
section
namespace MM
open PySem PySem.Spec PyProof.Rows L2
/-! ### try: .. except ..: a body that lets nothing out -/
theorem On.nox {P : Program} {w : World} {K : PySem.W.Frag} {mg : Str → Option Value} {base : Heap} {k : Nat} {X : Cx} (o : On P w K mg base k X) : On P w K mg base k X.nox := ⟨o.prog, o.w, o.K, o.mg, o.base, o.room, o.gu⟩
def noxD (d : MD) : MD := ⟨d.nx, d.rt, d.bk, d.ct, fun _ _ _ => False⟩
def wThru (w : WS) : WS := fun ρ h d => w ρ h (noxD d)
section
variable {d : MD} {ρ : En} {h : MH} {v : MV} {x : MX} {w : WS}
@[simp ↓] theorem wThru_s : wThru w ρ h d = w ρ h (noxD d) := rfl
@[simp ↓] theorem noxD_nx : (noxD d).nx ρ h = d.nx ρ h := rfl
@[simp ↓] theorem noxD_rt : (noxD d).rt v h = d.rt v h := rfl
@[simp ↓] theorem noxD_bk : (noxD d).bk ρ h = d.bk ρ h := rfl
@[simp ↓] theorem noxD_ct : (noxD d).ct ρ h = d.ct ρ h := rfl
@[simp ↓] theorem noxD_ex : (noxD d).ex x ρ h = False := rfl
theorem ss_thru {X : Cx} {body : List Stmt} {h₀ : ExceptHandler} {hs : List ExceptHandler} {pos : Pos} (hb : SSs X.nox body w) : SS X (.Try body (h₀ :: hs) [] [] pos) (wThru w) :=
  PS.imp (ps_try_thru0 hb) fun D σ H ⟨ρ, h, d, sr, hr, tk, z, n, r, b, c⟩ => ⟨ρ, h, noxD d, sr, hr, takes0.imp fun _ _ _ _ ⟨_, _, _, _, _, _, _, e⟩ => e, z, n, r, b, c⟩
end
/-! ### zs.index(z), a frozen list of texts -/
def isLis (x : MV) (_ : MH) : Prop := ∃ xs, x = .lis xs
@[simp ↓] theorem isLis_s {xs : List MV} {h : MH} : isLis (.lis xs) h = True := eq_true ⟨xs, rfl⟩
theorem lis_ty {K : PySem.W.Frag} : ∀ x v h H, HR K h H → VR K H x v → isLis x h → tyV K "list" v H := fun x v h H hh r ⟨xs, e1⟩ => by
  subst e1
  obtain ⟨p, vs, e, q, _⟩ := VR_lis.mp r
  subst e
  exact .inl ⟨rfl, vs, q.sq⟩
def mIndexS : MSpec := fun x args h q _ => match x, args with
  | .lis xs, [.str z] => ∃ zs : List Str, xs = zs.map MV.str ∧ z ∈ zs ∧ q (.int (zs.idxOf z : Nat)) h
  | _, _ => False
theorem map_str_inj : ∀ {as bs : List Str}, as.map MV.str = bs.map MV.str → as = bs := fun {as bs} e => by
  have := congrArg (List.map unS) e
  rwa [strs_is.2, strs_is.2] at this
@[simp ↓] theorem mIndexS_s {zs : List Str} {z : Str} {h : MH} {q : QV} {e : QX} : mIndexS (.lis (zs.map MV.str)) [.str z] h q e = (z ∈ zs ∧ q (.int (zs.idxOf z : Nat)) h) := propext ⟨fun ⟨ys, e1, m, k⟩ => by
  have := map_str_inj e1
  subst this
  exact ⟨m, k⟩, fun ⟨m, k⟩ => ⟨zs, rfl, m, k⟩⟩
theorem ok_indexS {X : Cx} : MtOk X "list" (rIndex X.K) isLis mIndexS := ⟨lis_ty, fun x args v vs h H q e Q hh rx ra φ k => by
  unfold mIndexS at φ
  split at φ
  · rename_i xs z
    obtain ⟨zs, e1, hm, w⟩ := φ
    subst e1
    obtain ⟨p, us, ep, fz, rs⟩ := VR_lis.mp rx
    subst ep
    obtain ⟨y, e2, ry⟩ := ra.one
    subst e2
    simp at ry
    subst ry
    rw [strs_of rs] at fz
    have hlt := List.idxOf_lt_length_of_mem hm
    refine ⟨p, zs.map V.str, .str z, zs.idxOf z, .str z, rfl, rfl, fz.sq, rfl, ?_, ?_, ?_, ?_, ?_⟩
    · simp [flatV]
    · simp [List.getElem?_eq_getElem hlt]
    · simp [eqV]
    · intro m z' hm' hz
      simp only [List.getElem?_map] at hz
      cases hq : zs[m]? with
      | none => rw [hq] at hz; cases hz
      | some w' =>
        rw [hq] at hz
        cases hz
        have : w' ≠ z := fun q => by
          have h2 := List.not_of_lt_findIdx (p := (· == z)) (xs := zs) (i := m) (by simpa [List.idxOf] using hm')
          obtain ⟨hl', e9⟩ := List.getElem?_eq_some_iff.mp hq
          rw [e9] at h2
          simp [q] at h2
        simpa [eqV] using this
    · exact k _ _ h H (TK.refl H) hh (by simp) w
  · exact φ.elim⟩
/-! ### x in a frozen list -/
@[simp ↓] theorem bIn_ll {n : Bool} {x : MV} {ys : List MV} {h : MH} {q : QV} {e : QX} : bInB n x (.lis ys) h q e = ((flatM x = true ∧ ys.all flatM = true) ∧ q (.bl (n ^^ ys.any fun y => eqM y x)) h) := by
  refine propext ⟨fun z => ?_, fun ⟨⟨a, b⟩, z⟩ => .inl ⟨ys, rfl, a, b, z⟩⟩
  rcases z with ⟨ys', e1, a, b, z⟩ | ⟨_, _, _, e1, _⟩ | ⟨_, _, _, _, e1, _⟩
  · cases e1
    exact ⟨⟨a, b⟩, z⟩
  · cases e1
  · cases e1
end MM
end
section
namespace MM
open PySem PySem.Spec PyProof.Rows L2
section
variable {prog : Program} {w : World} {A : Around} {E : Value → Shared → Prop} {s : Shared}
/-! ### (a, b, ..) = a list of that length -/
theorem draw_list {it l : Addr} {items : Array Value} (ne : l ≠ it) (n : Nat) : ∀ {i : Nat} {s : Shared} {Q : List Value → Shared → Prop}, s.heap.IsListIter it l i → s.heap.IsList l items → i + n ≤ items.size →
    (∀ h2, h2.IsListIter it l (i + n) → Heap.SameBut it s.heap h2 → Q ((items.toList.drop i).take n) { s with heap := h2 }) → wpAny (model prog w) A (draw (.ref it) n) Q E s := by
  induction n with
  | zero => exact fun at_ _ _ z => wpAny_pure (show _ from by simpa using z _ at_ (.refl ..))
  | succ n ih =>
    intro i s Q at_ here le z
    have lt : i < items.size := Nat.lt_of_lt_of_le (Nat.lt_add_of_pos_right n.succ_pos) le
    show wpAny _ _ (pyNext _ >>= _) _ _ _
    refine wpAny_bind (wpAny_pyNext_list_item at_ here (x := items[i]) (by simp [lt]) fun h1 at1 but1 => wpAny_bind (wpAny_holding (ih at1 (here.extBut but1.extBut ne) (by omega) fun h2 at2 but2 => wpAny_pure ?_)))
    have last := z h2 (by rw [← Nat.add_assoc, Nat.add_right_comm]; exact at2) (but1.trans but2)
    rwa [List.drop_eq_getElem_cons (by simpa using lt), List.take_succ_cons] at last
/-- all of a list's items, and no one behind them -/
theorem unpackItems_list {l : Addr} {items : Array Value} {Q : List Value → Shared → Prop} (hh : A.handled = none) (ht : s.heap.IsList l items) (z : ∀ h2, Heap.ExtBut s.heap.objs.size s.heap h2 → Q items.toList { s with heap := h2 }) :
    wpAny (model prog w) A (unpackItems (.ref l) items.size none) Q E s := by
  have ne : l ≠ s.heap.objs.size := have ⟨_, q, _⟩ := ht; Nat.ne_of_lt (Heap.lt_size q)
  unfold unpackItems notIterableAtAll
  refine wpAny_bind (wpAny_bind (wpAny_specialOf ht.typeIs slot_list_iter.lookup (wpAny_pure ?_)))
  rw [if_neg (by simp)]
  refine wpAny_bind (wpAny_holding (wpAny_pyIter_list ht (wpAny_bind (wpAny_holding (draw_list ne items.size ⟨_, Heap.get?_push_size _ rfl, rfl, rfl⟩ (ht.push _) (Nat.le_of_eq (Nat.zero_add _)) fun h1 at1 but1 => ?_)))))
  have all : List.take items.size (List.drop 0 items.toList) = items.toList := List.take_of_length_le (by simp)
  rw [all, if_neg (by simp)]
  refine wpAny_bind (wpAny_holding (wpAny_pyNext_list_end hh at1 ((ht.push _).extBut but1.extBut ne) (by simp) fun h2 but2 => ?_))
  rw [if_neg (by simp)]
  exact wpAny_pure (z h2 fun b o off q => but2 b o off (but1.extBut b o off (Heap.get?_push_of_some _ q)))
theorem assign_Tuple_list {env : Env} {elts : List Expr} {x1} {pos : Pos} {l : Addr} {items : Array Value} {Q : Unit → Shared → Prop} (hh : A.handled = none) (ht : s.heap.IsList l items) (hn : (assignEach elts env).length = items.size) (hstar : (assignEach elts env).findIdx? (·.1) = none)
    (z : ∀ h2, Heap.ExtBut s.heap.objs.size s.heap h2 → wpAny (model prog w) A (assignInOrder ((assignEach elts env).map (·.2)) items.toList) Q E { s with heap := h2 }) : wpAny (model prog w) A (assign (.Tuple elts x1 pos) env (.ref l)) Q E s := by
  rw [assign_Tuple]
  refine wpAny_bind (wpAny_standAt (?_ : wpAny (model prog w) A (unpack (.ref l) (assignEach elts env)) Q E _))
  rw [unpack, hn, hstar]
  exact wpAny_bind (wpAny_holding (unpackItems_list hh ht z))
end
variable {X : Cx}
def gLst (K : PySem.W.Frag) (n : Nat) (t : TGs) : TG := fun v σ H Q => ∃ a xs, v = .ref a ∧ (SqL K H a xs ∧ xs.length = n ∧ t xs σ H Q)
theorem pg_lst {es : List Expr} {k : Nat} {t : TGs} {n : Nat} (hc : X.calm = true) (h : PGs X es t) (hn : (assignEach es X.env).length = n := by rfl)
    (hst : (assignEach es X.env).findIdx? (·.1) = none := by rfl) : PG X (.Tuple es k pos) (gLst X.K n t) := by
  refine ⟨fun pins s σ H v u Q I r ⟨a, xs, ev, sq, len, z⟩ => ?_⟩
  subst ev
  cases r
  obtain ⟨its, rv, here, _⟩ := I.list sq
  exact assign_Tuple_list (I.ok.hd hc) here.isList (by simp [hn, ← len, rv.length]) hst fun h2 but => h.run pins _ σ H xs _ Q (I.kept (t' := s.toks) fun b o q => but b o (Nat.ne_of_lt (Heap.lt_size q)) q) (by simpa using rv) z
def gmLst (is : List Nat) : WG := fun v ρ h q e => match v with
  | .lis xs => gmNames is xs ρ h q e
  | _ => False
theorem sg_lst {es : List Expr} {k : Nat} {is : List Nat} (hc : X.calm = true) (h : SGs X es (gmNames is)) (hn : (assignEach es X.env).length = is.length := by rfl) (hst : (assignEach es X.env).findIdx? (·.1) = none := by rfl) : SG X (.Tuple es k pos) (gmLst is) :=
  PG.imp (pg_lst hc h hn hst) fun v σ H Q ⟨mv, ρ, h, q, e, vr, sr, hr, tk, w, k⟩ => by
    cases mv with
    | lis xs =>
      obtain ⟨p, vs, e1, fz, rs⟩ := VR_lis.mp vr
      have hl := gmNames_len is w
      exact ⟨p, vs, e1, fz.sq, by rw [← rs.length]; exact hl, xs, ρ, h, q, e, rs, sr, hr, tk, w, k⟩
    | _ => exact w.elim
@[simp ↓] theorem gmLst_3 {i j k : Nat} {x y z : MV} {q : En → MH → Prop} {e : QX} {ρ : En} {h : MH} : gmLst [i, j, k] (.lis [x, y, z]) ρ h q e = q (((ρ.set i (some x)).set j (some y)).set k (some z)) h := by
  show (([] : List MV) = [] ∧ q (((ρ.set i (some x)).set j (some y)).set k (some z)) h) = _
  simp
end MM
end
section
namespace MM
open PySem PySem.Spec PyProof.Rows L2
/-! ### the head's look, off a tree -/
def obsT (as : AsM) (fa : List FaM) (fn : List DefA) (s : Shared) : He.AlD := match HandSHeadRun.putAll s.heap.objs.toList .nil 0 with
  | some (t, n) => HandSHeadRun.frNat n fun n => obsMG as fa fn (HandSHeadRun.getT ⟨t, n, s.heap.life, s.gens, s.drawn, s.toks, s.os⟩)
  | none => (false, [])
theorem obsT_of {as : AsM} {fa : List FaM} {fn : List DefA} {s : Shared} (e : obsT as fa fn s = valA fn) : ∃ K : PySem.W.Frag, K.In s.heap ∧ SaysM fa fn K := by
  unfold obsT at e
  cases q : HandSHeadRun.putAll s.heap.objs.toList .nil 0 with
  | none =>
    rw [q] at e
    cases congrArg (fun z : He.AlD => z.1) e
  | some r =>
    obtain ⟨t, n⟩ := r
    rw [q] at e
    have e : (HandSHeadRun.frNat n fun n => obsMG as fa fn (HandSHeadRun.getT ⟨t, n, s.heap.life, s.gens, s.drawn, s.toks, s.os⟩)) = valA fn := e
    rw [HandSHeadRun.frNat_eq] at e
    have eg : HandSHeadRun.getT ⟨t, n, s.heap.life, s.gens, s.drawn, s.toks, s.os⟩ = s.heap.get? := funext fun a => by
      rw [HandSHeadRun.getT_eq]
      show (PySem.W.absHeap t n s.heap.life).get? a = _
      rw [HandSHeadRun.putAll_heap q]
    rw [eg] at e
    exact ⟨_, He.frG_in, e⟩
def hookT (as : AsM) (fa : List FaM) (fn : List DefA) : PySem.W.Hook where
  α := He.AlD
  obs := fun s => obsT as fa fn s
  val := fun _ => valA fn
  says := fun _ h => ∃ K : PySem.W.Frag, K.In h ∧ SaysM fa fn K
  of := fun _ _ e => obsT_of e
  keeps := fun _ _ _ ⟨K, there, c⟩ k => ⟨K, there.keeps k, c⟩
/-- a look in parts -/
theorem obs_two {fa fb : List FaM} {fn gn : List DefA} {K : PySem.W.Frag} (a : obsM fa [] K = valA []) (b : obsM fb [] K = valA []) (c : obsM [] fn K = valA fn) (d : obsM [] gn K = valA gn) : obsM (fa ++ fb) (fn ++ gn) K = valA (fn ++ gn) := by
  have a1 : ((fa.all fun f => f K) && true) = true := congrArg (fun z : He.AlD => z.1) a
  have b1 : ((fb.all fun f => f K) && true) = true := congrArg (fun z : He.AlD => z.1) b
  have c1 : (true && fn.all fun d => okA K (d.1 K) d.2) = true := congrArg (fun z : He.AlD => z.1) c
  have d1 : (true && gn.all fun d => okA K (d.1 K) d.2) = true := congrArg (fun z : He.AlD => z.1) d
  have c2 : fn.map (fun d => fnWA K (d.1 K)) = fn.map fun d => d.2.val := congrArg (fun z : He.AlD => z.2) c
  have d2 : gn.map (fun d => fnWA K (d.1 K)) = gn.map fun d => d.2.val := congrArg (fun z : He.AlD => z.2) d
  rw [Bool.and_true] at a1 b1
  rw [Bool.true_and] at c1 d1
  unfold obsM valA
  rw [List.all_append, List.all_append, List.map_append, List.map_append, a1, b1, c1, d1, c2, d2]
  rfl
theorem obs_nil {K : PySem.W.Frag} : obsM [] [] K = valA [] := rfl
theorem obs_fa {fa fb : List FaM} {K : PySem.W.Frag} (a : obsM fa [] K = valA []) (b : obsM fb [] K = valA []) : obsM (fa ++ fb) [] K = valA [] := obs_two a b obs_nil obs_nil
theorem obs_fn {fn gn : List DefA} {K : PySem.W.Frag} (c : obsM [] fn K = valA fn) (d : obsM [] gn K = valA gn) : obsM [] (fn ++ gn) K = valA (fn ++ gn) := obs_two obs_nil obs_nil c d
theorem obs_all {fa : List FaM} {fn : List DefA} {K : PySem.W.Frag} (a : obsM fa [] K = valA []) (c : obsM [] fn K = valA fn) : obsM fa fn K = valA fn := by
  have := obs_two a (obs_nil (K := K)) c (obs_nil (K := K))
  rwa [List.append_nil, List.append_nil] at this
end MM
end
section
namespace MM
open PySem PySem.Spec PyProof.Rows L2
def top (i : Nat) : Stmt := PySem.Challenge.pw_parthauls_k12_whole_weavings_go_together.main.body.getD i (.Pass ⟨0, 0, 0, 0⟩)
abbrev s_is_integer : Stmt := top 10
abbrev s_is_sequence : Stmt := top 11
abbrev s_is_event : Stmt := top 15
abbrev s_InvalidEvent___init__ : Stmt := inClass (top 3) 0
abbrev s_InvalidText___init__ : Stmt := inClass (top 2) 0
abbrev s_NoEvent___init__ : Stmt := inClass (top 4) 0
abbrev s_Weaving___init__ : Stmt := inClass (top 18) 0
abbrev s_Weaving___len__ : Stmt := inClass (top 18) 4
abbrev s_Weaving___eq__ : Stmt := inClass (top 18) 14
abbrev s_Weaving___add__ : Stmt := inClass (top 18) 7
abbrev s_Weaving___mul__ : Stmt := inClass (top 18) 8
abbrev s_Weaving___rmul__ : Stmt := inClass (top 18) 9
abbrev s_Weaving___le__ : Stmt := inClass (top 18) 10
abbrev s_Weaving___lt__ : Stmt := inClass (top 18) 11
abbrev s_Weaving___gt__ : Stmt := inClass (top 18) 13
abbrev s_Weaving___getitem__ : Stmt := inClass (top 18) 5
abbrev s_Weaving_uploads : Stmt := inClass (top 18) 2
abbrev s_Weaving_renumbered : Stmt := inClass (top 18) 3
abbrev s_event_text : Stmt := top 16
abbrev s_Weaving___str__ : Stmt := inClass (top 18) 15
abbrev s_number_in : Stmt := top 12
abbrev s_event_in : Stmt := top 17
abbrev s_Weaving_read : Stmt := inClass (top 18) 1
abbrev s__law_deal : Stmt := top 20
abbrev s__law_draw : Stmt := top 21
abbrev s__law_pick : Stmt := top 22
abbrev s__law_event : Stmt := top 23
abbrev s__law_numbers : Stmt := top 24
abbrev s__law_events : Stmt := top 25
abbrev s_law : Stmt := top 26
structure Txt (K : PySem.W.Frag) (mg : Str → Option Value) (own : List Addr) : Prop where
  isi : IsiOk K (isiT own)
  ins : ∀ D ∈ own, InsC K D
  in_Weaving : (cAt own 0) ∈ own
  c_Weaving : Cls K (cAt own 0)
  o_Weaving : OpC K (cAt own 0)
  sq_Weaving : PySem.W.noSeq K (cAt own 0) = true
  mk_Weaving : ∃ g, Mk K (cAt own 0) g
  G_Weaving : mg "Weaving" = some (.ref (cAt own 0))
  eq_Weaving : EqF K (cAt own 0) own
  oe_InvalidText : OexC K (er K "InvalidText")
  no_InvalidText : PySem.W.findIn K (.ref (er K "InvalidText")) "at" = some none
  ef_InvalidText : ErrF K (er K "InvalidText")
  oe_InvalidEvent : OexC K (er K "InvalidEvent")
  no_InvalidEvent : PySem.W.findIn K (.ref (er K "InvalidEvent")) "at" = some none
  ef_InvalidEvent : ErrF K (er K "InvalidEvent")
  oe_NoEvent : OexI K (er K "NoEvent")
  no_NoEvent : PySem.W.findIn K (.ref (er K "NoEvent")) "at" = some none
  ef_NoEvent : ErrF K (er K "NoEvent")
  G_InvalidEvent : mg "InvalidEvent" = some (.ref (er K "InvalidEvent"))
  G_InvalidText : mg "InvalidText" = some (.ref (er K "InvalidText"))
  G_NoEvent : mg "NoEvent" = some (.ref (er K "NoEvent"))
  n_Weaving_events : NoAttr K (cAt own 0) "events"
  b_abs : mg "abs" = none
  b_all : mg "all" = none
  b_bool : mg "bool" = none
  b_enumerate : mg "enumerate" = none
  b_int : mg "int" = none
  b_isinstance : mg "isinstance" = none
  b_len : mg "len" = none
  b_list : mg "list" = none
  b_range : mg "range" = none
  b_set : mg "set" = none
  b_sorted : mg "sorted" = none
  b_str : mg "str" = none
  b_tuple : mg "tuple" = none
  g_FIGURES : Gc K mg "FIGURES" (.str "0123456789")
  g_KINDS : Gc K mg "KINDS" (.tup [(.str "age"), (.str "close"), (.str "drop"), (.str "erase"), (.str "fall"), (.str "open"), (.str "put"), (.str "sweep"), (.str "work")])
  g_MOST_FIGURES : Gc K mg "MOST_FIGURES" (.int 10)
  g_MOST_PARTS : Gc K mg "MOST_PARTS" (.int 3)
  g_OF_NOBODY : Gc K mg "OF_NOBODY" (.tup [(.str "erase"), (.str "fall")])
  g_Weaving : Gc K mg "Weaving" (.ref (cAt own 0))
  d_is_integer : Df K mg "is_integer" s_is_integer []
  d_is_sequence : Df K mg "is_sequence" s_is_sequence []
  d_is_event : Df K mg "is_event" s_is_event []
  d_InvalidEvent___init__ : DfM K (er K "InvalidEvent") "__init__" "InvalidEvent.__init__" s_InvalidEvent___init__ []
  d_InvalidText___init__ : DfM K (er K "InvalidText") "__init__" "InvalidText.__init__" s_InvalidText___init__ []
  d_NoEvent___init__ : DfM K (er K "NoEvent") "__init__" "NoEvent.__init__" s_NoEvent___init__ []
  d_Weaving___init__ : ∃ p0, (∀ H, SqT K H p0 []) ∧ DfM K (cAt own 0) "__init__" "Weaving.__init__" s_Weaving___init__ [.ref p0]
  d_Weaving___len__ : DfM K (cAt own 0) "__len__" "Weaving.__len__" s_Weaving___len__ []
  d_Weaving___eq__ : DfM K (cAt own 0) "__eq__" "Weaving.__eq__" s_Weaving___eq__ []
  d_Weaving___add__ : DfM K (cAt own 0) "__add__" "Weaving.__add__" s_Weaving___add__ []
  d_Weaving___mul__ : DfM K (cAt own 0) "__mul__" "Weaving.__mul__" s_Weaving___mul__ []
  d_Weaving___rmul__ : DfM K (cAt own 0) "__rmul__" "Weaving.__rmul__" s_Weaving___rmul__ []
  d_Weaving___le__ : DfM K (cAt own 0) "__le__" "Weaving.__le__" s_Weaving___le__ []
  d_Weaving___lt__ : DfM K (cAt own 0) "__lt__" "Weaving.__lt__" s_Weaving___lt__ []
  d_Weaving___gt__ : DfM K (cAt own 0) "__gt__" "Weaving.__gt__" s_Weaving___gt__ []
  d_Weaving___getitem__ : DfM K (cAt own 0) "__getitem__" "Weaving.__getitem__" s_Weaving___getitem__ []
  d_Weaving_uploads : DfP K (cAt own 0) "uploads" "Weaving.uploads" s_Weaving_uploads
  d_Weaving_renumbered : DfM K (cAt own 0) "renumbered" "Weaving.renumbered" s_Weaving_renumbered []
  d_event_text : Df K mg "event_text" s_event_text []
  d_Weaving___str__ : DfM K (cAt own 0) "__str__" "Weaving.__str__" s_Weaving___str__ []
  d_number_in : Df K mg "number_in" s_number_in []
  d_event_in : Df K mg "event_in" s_event_in []
  d_Weaving_read : DfC K (cAt own 0) "read" "Weaving.read" s_Weaving_read
  d__law_deal : Df K mg "_law_deal" s__law_deal []
  d__law_draw : Df K mg "_law_draw" s__law_draw []
  d__law_pick : Df K mg "_law_pick" s__law_pick []
  d__law_event : Df K mg "_law_event" s__law_event []
  d__law_numbers : Df K mg "_law_numbers" s__law_numbers []
  d__law_events : Df K mg "_law_events" s__law_events []
  d_law : Df K mg "law" s_law []
theorem sc_is_integer : FnScope (["thing"] : List Str) ["thing"] (defScope s_is_integer) := ⟨rfl, rfl, rfl, by decide +kernel, rfl, by decide +kernel, by decide +kernel⟩
theorem sc_is_sequence : FnScope (["thing"] : List Str) ["thing"] (defScope s_is_sequence) := ⟨rfl, rfl, rfl, by decide +kernel, rfl, by decide +kernel, by decide +kernel⟩
theorem sc_is_event : FnScope (["thing", "numbers", "number"] : List Str) ["thing"] (defScope s_is_event) := ⟨rfl, rfl, rfl, by decide +kernel, rfl, by decide +kernel, by decide +kernel⟩
theorem sc_InvalidEvent___init__ : FnScope (["self", "at"] : List Str) ["self", "at"] (defScope s_InvalidEvent___init__) := ⟨rfl, rfl, rfl, by decide +kernel, rfl, by decide +kernel, by decide +kernel⟩
theorem sc_InvalidText___init__ : FnScope (["self", "at"] : List Str) ["self", "at"] (defScope s_InvalidText___init__) := ⟨rfl, rfl, rfl, by decide +kernel, rfl, by decide +kernel, by decide +kernel⟩
theorem sc_NoEvent___init__ : FnScope (["self", "at"] : List Str) ["self", "at"] (defScope s_NoEvent___init__) := ⟨rfl, rfl, rfl, by decide +kernel, rfl, by decide +kernel, by decide +kernel⟩
theorem sc_Weaving___init__ : FnScope (["self", "events", "at", "event"] : List Str) ["self", "events"] (defScope s_Weaving___init__) := ⟨rfl, rfl, rfl, by decide +kernel, rfl, by decide +kernel, by decide +kernel⟩
theorem sc_Weaving___len__ : FnScope (["self"] : List Str) ["self"] (defScope s_Weaving___len__) := ⟨rfl, rfl, rfl, by decide +kernel, rfl, by decide +kernel, by decide +kernel⟩
theorem sc_Weaving___eq__ : FnScope (["self", "other"] : List Str) ["self", "other"] (defScope s_Weaving___eq__) := ⟨rfl, rfl, rfl, by decide +kernel, rfl, by decide +kernel, by decide +kernel⟩
theorem sc_Weaving___add__ : FnScope (["self", "other"] : List Str) ["self", "other"] (defScope s_Weaving___add__) := ⟨rfl, rfl, rfl, by decide +kernel, rfl, by decide +kernel, by decide +kernel⟩
theorem sc_Weaving___mul__ : FnScope (["self", "many"] : List Str) ["self", "many"] (defScope s_Weaving___mul__) := ⟨rfl, rfl, rfl, by decide +kernel, rfl, by decide +kernel, by decide +kernel⟩
theorem sc_Weaving___rmul__ : FnScope (["self", "many"] : List Str) ["self", "many"] (defScope s_Weaving___rmul__) := ⟨rfl, rfl, rfl, by decide +kernel, rfl, by decide +kernel, by decide +kernel⟩
theorem sc_Weaving___le__ : FnScope (["self", "other", "spot", "event"] : List Str) ["self", "other"] (defScope s_Weaving___le__) := ⟨rfl, rfl, rfl, by decide +kernel, rfl, by decide +kernel, by decide +kernel⟩
theorem sc_Weaving___lt__ : FnScope (["self", "other"] : List Str) ["self", "other"] (defScope s_Weaving___lt__) := ⟨rfl, rfl, rfl, by decide +kernel, rfl, by decide +kernel, by decide +kernel⟩
theorem sc_Weaving___gt__ : FnScope (["self", "other"] : List Str) ["self", "other"] (defScope s_Weaving___gt__) := ⟨rfl, rfl, rfl, by decide +kernel, rfl, by decide +kernel, by decide +kernel⟩
theorem sc_Weaving___getitem__ : FnScope (["self", "at"] : List Str) ["self", "at"] (defScope s_Weaving___getitem__) := ⟨rfl, rfl, rfl, by decide +kernel, rfl, by decide +kernel, by decide +kernel⟩
theorem sc_Weaving_uploads : FnScope (["self", "event"] : List Str) ["self"] (defScope s_Weaving_uploads) := ⟨rfl, rfl, rfl, by decide +kernel, rfl, by decide +kernel, by decide +kernel⟩
theorem sc_Weaving_renumbered : FnScope (["self", "event", "names", "events"] : List Str) ["self"] (defScope s_Weaving_renumbered) := ⟨rfl, rfl, rfl, by decide +kernel, rfl, by decide +kernel, by decide +kernel⟩
theorem sc_event_text : FnScope (["event", "part"] : List Str) ["event"] (defScope s_event_text) := ⟨rfl, rfl, rfl, by decide +kernel, rfl, by decide +kernel, by decide +kernel⟩
theorem sc_Weaving___str__ : FnScope (["self", "event"] : List Str) ["self"] (defScope s_Weaving___str__) := ⟨rfl, rfl, rfl, by decide +kernel, rfl, by decide +kernel, by decide +kernel⟩
theorem sc_number_in : FnScope (["word", "sign"] : List Str) ["word"] (defScope s_number_in) := ⟨rfl, rfl, rfl, by decide +kernel, rfl, by decide +kernel, by decide +kernel⟩
theorem sc_event_in : FnScope (["text", "words", "event", "word"] : List Str) ["text"] (defScope s_event_in) := ⟨rfl, rfl, rfl, by decide +kernel, rfl, by decide +kernel, by decide +kernel⟩
theorem sc_Weaving_read : FnScope (["cls", "text", "events", "at", "part", "event"] : List Str) ["cls", "text"] (defScope s_Weaving_read) := ⟨rfl, rfl, rfl, by decide +kernel, rfl, by decide +kernel, by decide +kernel⟩
theorem sc__law_deal : FnScope (["_law_script", "_law_base", "_law_cells", "_law_mixed", "_law_cell", "_law_great"] : List Str) ["_law_script", "_law_base"] (defScope s__law_deal) := ⟨rfl, rfl, rfl, by decide +kernel, rfl, by decide +kernel, by decide +kernel⟩
theorem sc__law_draw : FnScope (["_law_deal_here", "_law_many", "_law_first", "_law_second", "_law_digit"] : List Str) ["_law_deal_here", "_law_many"] (defScope s__law_draw) := ⟨rfl, rfl, rfl, by decide +kernel, rfl, by decide +kernel, by decide +kernel⟩
theorem sc__law_pick : FnScope (["_law_deal_here", "_law_some"] : List Str) ["_law_deal_here", "_law_some"] (defScope s__law_pick) := ⟨rfl, rfl, rfl, by decide +kernel, rfl, by decide +kernel, by decide +kernel⟩
theorem sc__law_event : FnScope (["_law_deal_here", "_law_uploads", "_law_parts", "_law_some", "_law_kind", "_law_writing"] : List Str) ["_law_deal_here", "_law_uploads", "_law_parts"] (defScope s__law_event) := ⟨rfl, rfl, rfl, by decide +kernel, rfl, by decide +kernel, by decide +kernel⟩
theorem sc__law_numbers : FnScope (["_law_deal_here", "_law_k"] : List Str) ["_law_deal_here"] (defScope s__law_numbers) := ⟨rfl, rfl, rfl, by decide +kernel, rfl, by decide +kernel, by decide +kernel⟩
theorem sc__law_events : FnScope (["_law_deal_here", "_law_parts", "_law_many", "_law_uploads", "_law_k"] : List Str) ["_law_deal_here", "_law_parts", "_law_many"] (defScope s__law_events) := ⟨rfl, rfl, rfl, by decide +kernel, rfl, by decide +kernel, by decide +kernel⟩
theorem sc_law : FnScope (["_law_script", "_law_deal_here", "_law_turn", "_law_whole", "_law_at", "_law_both", "_law_a", "_law_b", "_law_c", "_law_k", "_law_number"] : List Str) ["_law_script"] (defScope s_law) := ⟨rfl, rfl, rfl, by decide +kernel, rfl, by decide +kernel, by decide +kernel⟩
end MM
end
section
namespace MM
open PySem PySem.Spec PyProof.Rows L2
def ownK (K : PySem.W.Frag) : List Addr := [He.ga K "Weaving"]
def D_is_integer : DefA := ⟨fun K => He.ga K "is_integer", ⟨("", none), "is_integer", "is_integer", defArgs s_is_integer, defBody s_is_integer, defScope s_is_integer, [], []⟩⟩
def D_is_sequence : DefA := ⟨fun K => He.ga K "is_sequence", ⟨("", none), "is_sequence", "is_sequence", defArgs s_is_sequence, defBody s_is_sequence, defScope s_is_sequence, [], []⟩⟩
def D_is_event : DefA := ⟨fun K => He.ga K "is_event", ⟨("", none), "is_event", "is_event", defArgs s_is_event, defBody s_is_event, defScope s_is_event, [], []⟩⟩
def D_InvalidEvent___init__ : DefA := ⟨fun K => He.ma K (He.ga K "InvalidEvent") "__init__", ⟨("", none), "__init__", "InvalidEvent.__init__", defArgs s_InvalidEvent___init__, defBody s_InvalidEvent___init__, defScope s_InvalidEvent___init__, [], []⟩⟩
def D_InvalidText___init__ : DefA := ⟨fun K => He.ma K (He.ga K "InvalidText") "__init__", ⟨("", none), "__init__", "InvalidText.__init__", defArgs s_InvalidText___init__, defBody s_InvalidText___init__, defScope s_InvalidText___init__, [], []⟩⟩
def D_NoEvent___init__ : DefA := ⟨fun K => He.ma K (He.ga K "NoEvent") "__init__", ⟨("", none), "__init__", "NoEvent.__init__", defArgs s_NoEvent___init__, defBody s_NoEvent___init__, defScope s_NoEvent___init__, [], []⟩⟩
def D_Weaving___init__ : DefA := ⟨fun K => He.ma K (He.ga K "Weaving") "__init__", ⟨("", none), "__init__", "Weaving.__init__", defArgs s_Weaving___init__, defBody s_Weaving___init__, defScope s_Weaving___init__, [.adr (He.dflAt ("Weaving", some "__init__") 0)], []⟩⟩
def D_Weaving___len__ : DefA := ⟨fun K => He.ma K (He.ga K "Weaving") "__len__", ⟨("", none), "__len__", "Weaving.__len__", defArgs s_Weaving___len__, defBody s_Weaving___len__, defScope s_Weaving___len__, [], []⟩⟩
def D_Weaving___eq__ : DefA := ⟨fun K => He.ma K (He.ga K "Weaving") "__eq__", ⟨("", none), "__eq__", "Weaving.__eq__", defArgs s_Weaving___eq__, defBody s_Weaving___eq__, defScope s_Weaving___eq__, [], []⟩⟩
def D_Weaving___add__ : DefA := ⟨fun K => He.ma K (He.ga K "Weaving") "__add__", ⟨("", none), "__add__", "Weaving.__add__", defArgs s_Weaving___add__, defBody s_Weaving___add__, defScope s_Weaving___add__, [], []⟩⟩
def D_Weaving___mul__ : DefA := ⟨fun K => He.ma K (He.ga K "Weaving") "__mul__", ⟨("", none), "__mul__", "Weaving.__mul__", defArgs s_Weaving___mul__, defBody s_Weaving___mul__, defScope s_Weaving___mul__, [], []⟩⟩
def D_Weaving___rmul__ : DefA := ⟨fun K => He.ma K (He.ga K "Weaving") "__rmul__", ⟨("", none), "__rmul__", "Weaving.__rmul__", defArgs s_Weaving___rmul__, defBody s_Weaving___rmul__, defScope s_Weaving___rmul__, [], []⟩⟩
def D_Weaving___le__ : DefA := ⟨fun K => He.ma K (He.ga K "Weaving") "__le__", ⟨("", none), "__le__", "Weaving.__le__", defArgs s_Weaving___le__, defBody s_Weaving___le__, defScope s_Weaving___le__, [], []⟩⟩
def D_Weaving___lt__ : DefA := ⟨fun K => He.ma K (He.ga K "Weaving") "__lt__", ⟨("", none), "__lt__", "Weaving.__lt__", defArgs s_Weaving___lt__, defBody s_Weaving___lt__, defScope s_Weaving___lt__, [], []⟩⟩
def D_Weaving___gt__ : DefA := ⟨fun K => He.ma K (He.ga K "Weaving") "__gt__", ⟨("", none), "__gt__", "Weaving.__gt__", defArgs s_Weaving___gt__, defBody s_Weaving___gt__, defScope s_Weaving___gt__, [], []⟩⟩
def D_Weaving___getitem__ : DefA := ⟨fun K => He.ma K (He.ga K "Weaving") "__getitem__", ⟨("", none), "__getitem__", "Weaving.__getitem__", defArgs s_Weaving___getitem__, defBody s_Weaving___getitem__, defScope s_Weaving___getitem__, [], []⟩⟩
def D_Weaving_uploads : DefA := ⟨pGet "Weaving" "uploads", ⟨("", none), "uploads", "Weaving.uploads", defArgs s_Weaving_uploads, defBody s_Weaving_uploads, defScope s_Weaving_uploads, [], []⟩⟩
def D_Weaving_renumbered : DefA := ⟨fun K => He.ma K (He.ga K "Weaving") "renumbered", ⟨("", none), "renumbered", "Weaving.renumbered", defArgs s_Weaving_renumbered, defBody s_Weaving_renumbered, defScope s_Weaving_renumbered, [], []⟩⟩
def D_event_text : DefA := ⟨fun K => He.ga K "event_text", ⟨("", none), "event_text", "event_text", defArgs s_event_text, defBody s_event_text, defScope s_event_text, [], []⟩⟩
def D_Weaving___str__ : DefA := ⟨fun K => He.ma K (He.ga K "Weaving") "__str__", ⟨("", none), "__str__", "Weaving.__str__", defArgs s_Weaving___str__, defBody s_Weaving___str__, defScope s_Weaving___str__, [], []⟩⟩
def D_number_in : DefA := ⟨fun K => He.ga K "number_in", ⟨("", none), "number_in", "number_in", defArgs s_number_in, defBody s_number_in, defScope s_number_in, [], []⟩⟩
def D_event_in : DefA := ⟨fun K => He.ga K "event_in", ⟨("", none), "event_in", "event_in", defArgs s_event_in, defBody s_event_in, defScope s_event_in, [], []⟩⟩
def D_Weaving_read : DefA := ⟨fun K => cmFn K (He.ga K "Weaving") "read", ⟨("", none), "read", "Weaving.read", defArgs s_Weaving_read, defBody s_Weaving_read, defScope s_Weaving_read, [], []⟩⟩
def D__law_deal : DefA := ⟨fun K => He.ga K "_law_deal", ⟨("", none), "_law_deal", "_law_deal", defArgs s__law_deal, defBody s__law_deal, defScope s__law_deal, [], []⟩⟩
def D__law_draw : DefA := ⟨fun K => He.ga K "_law_draw", ⟨("", none), "_law_draw", "_law_draw", defArgs s__law_draw, defBody s__law_draw, defScope s__law_draw, [], []⟩⟩
def D__law_pick : DefA := ⟨fun K => He.ga K "_law_pick", ⟨("", none), "_law_pick", "_law_pick", defArgs s__law_pick, defBody s__law_pick, defScope s__law_pick, [], []⟩⟩
def D__law_event : DefA := ⟨fun K => He.ga K "_law_event", ⟨("", none), "_law_event", "_law_event", defArgs s__law_event, defBody s__law_event, defScope s__law_event, [], []⟩⟩
def D__law_numbers : DefA := ⟨fun K => He.ga K "_law_numbers", ⟨("", none), "_law_numbers", "_law_numbers", defArgs s__law_numbers, defBody s__law_numbers, defScope s__law_numbers, [], []⟩⟩
def D__law_events : DefA := ⟨fun K => He.ga K "_law_events", ⟨("", none), "_law_events", "_law_events", defArgs s__law_events, defBody s__law_events, defScope s__law_events, [], []⟩⟩
def D_law : DefA := ⟨fun K => He.ga K "law", ⟨("", none), "law", "law", defArgs s_law, defBody s_law, defScope s_law, [], []⟩⟩
def fa0 : List FaM := [fun K => kitsB K (ownK K), fun K => (He.Fa.glo "Weaving").ok K, fun K => (He.Fa.cls "Weaving").ok K, fun K => (He.Fa.mkr "Weaving").ok K, eqfB "Weaving" ownK, opcB "Weaving", fun K => PySem.W.noSeq K (He.ga K "Weaving"), oexB "InvalidText", fun K => (He.Fa.noat "InvalidText" "at").ok K, errFB "InvalidText", oexB "InvalidEvent", fun K => (He.Fa.noat "InvalidEvent" "at").ok K, errFB "InvalidEvent", oexIB "NoEvent", fun K => (He.Fa.noat "NoEvent" "at").ok K, errFB "NoEvent", fun K => (He.Fa.glo "InvalidEvent").ok K, fun K => (He.Fa.glo "InvalidText").ok K, fun K => (He.Fa.glo "NoEvent").ok K, fun K => (He.Fa.noat "Weaving" "events").ok K, fun K => (He.Fa.free "abs").ok K, fun K => (He.Fa.free "all").ok K, fun K => (He.Fa.free "bool").ok K, fun K => (He.Fa.free "enumerate").ok K, fun K => (He.Fa.free "int").ok K, fun K => (He.Fa.free "isinstance").ok K, fun K => (He.Fa.free "len").ok K, fun K => (He.Fa.free "list").ok K, fun K => (He.Fa.free "range").ok K, fun K => (He.Fa.free "set").ok K]
def fa1 : List FaM := [fun K => (He.Fa.free "sorted").ok K, fun K => (He.Fa.free "str").ok K, fun K => (He.Fa.free "tuple").ok K, gcB "FIGURES" (.str "0123456789"), gcB "KINDS" (.tup [(.str "age"), (.str "close"), (.str "drop"), (.str "erase"), (.str "fall"), (.str "open"), (.str "put"), (.str "sweep"), (.str "work")]), gcB "MOST_FIGURES" (.int 10), gcB "MOST_PARTS" (.int 3), gcB "OF_NOBODY" (.tup [(.str "erase"), (.str "fall")]), fun K => (He.Fa.glo "is_integer").ok K, fun K => (He.Fa.glo "is_sequence").ok K, fun K => (He.Fa.glo "is_event").ok K, fun K => (He.Fa.meth "InvalidEvent" "__init__").ok K, fun K => (He.Fa.meth "InvalidText" "__init__").ok K, fun K => (He.Fa.meth "NoEvent" "__init__").ok K, fun K => (He.Fa.meth "Weaving" "__init__").ok K, fun K => relM K (.tup []) (.ref (He.dflAt ("Weaving", some "__init__") 0 K)), fun K => (He.Fa.meth "Weaving" "__len__").ok K, fun K => (He.Fa.meth "Weaving" "__eq__").ok K, fun K => (He.Fa.meth "Weaving" "__add__").ok K, fun K => (He.Fa.meth "Weaving" "__mul__").ok K, fun K => (He.Fa.meth "Weaving" "__rmul__").ok K, fun K => (He.Fa.meth "Weaving" "__le__").ok K, fun K => (He.Fa.meth "Weaving" "__lt__").ok K, fun K => (He.Fa.meth "Weaving" "__gt__").ok K, fun K => (He.Fa.meth "Weaving" "__getitem__").ok K, propB "Weaving" "uploads", fun K => (He.Fa.meth "Weaving" "renumbered").ok K, fun K => (He.Fa.glo "event_text").ok K, fun K => (He.Fa.meth "Weaving" "__str__").ok K, fun K => (He.Fa.glo "number_in").ok K]
def fa2 : List FaM := [fun K => (He.Fa.glo "event_in").ok K, cmB "Weaving" "read", fun K => (He.Fa.glo "_law_deal").ok K, fun K => (He.Fa.glo "_law_draw").ok K, fun K => (He.Fa.glo "_law_pick").ok K, fun K => (He.Fa.glo "_law_event").ok K, fun K => (He.Fa.glo "_law_numbers").ok K, fun K => (He.Fa.glo "_law_events").ok K, fun K => (He.Fa.glo "law").ok K]
def faL : List FaM := fa0 ++ (fa1 ++ (fa2))
def fn0 : List DefA := [D_is_integer, D_is_sequence, D_is_event, D_InvalidEvent___init__, D_InvalidText___init__, D_NoEvent___init__, D_Weaving___init__, D_Weaving___len__, D_Weaving___eq__, D_Weaving___add__, D_Weaving___mul__, D_Weaving___rmul__, D_Weaving___le__, D_Weaving___lt__, D_Weaving___gt__]
def fn1 : List DefA := [D_Weaving___getitem__, D_Weaving_uploads, D_Weaving_renumbered, D_event_text, D_Weaving___str__, D_number_in, D_event_in, D_Weaving_read, D__law_deal, D__law_draw, D__law_pick, D__law_event, D__law_numbers, D__law_events, D_law]
def fnL : List DefA := fn0 ++ (fn1)
def nsL0 : List Str := ["__name__", "HaulError", "InvalidText", "InvalidEvent", "NoEvent", "FIGURES", "MOST_FIGURES", "OF_NOBODY", "KINDS", "is_integer", "is_sequence", "number_in", "MOST_PARTS", "is_event", "event_text", "event_in", "Weaving", "_law_deal", "_law_draw", "_law_pick", "_law_event", "_law_numbers", "_law_events"]
def nsL : List Str := nsL0
abbrev RowL : PySem.W.OpenRow := PySem.W.OpenLaw.row PySem.Challenge.rw_parthauls_k12_whole_weavings_go_together
def asL : AsM := fun _ => List.range 1500
abbrev hkL : PySem.W.Hook := hookM asL faL fnL
def obL (s : PySem.W.SharedT) : He.AlD := obsMG asL faL fnL (HandSHeadRun.getT s)
theorem obL_eq (s : PySem.W.SharedT) : obL s = hkL.obs s.abs := obsMG_eq (HandSHeadRun.getT_eq s)
section
open PySem.W PySem.Calls
abbrev viewL : Program := PySem.W.view RowL.prog [26]
noncomputable abbrev endL (w : World) (os : OsState) : Option SharedT := HandSHeadRun.endF (HandSHeadRun.stepQ (HandSHeadRun.denQ HandSHeadRun.tabQ) RowL.prog w) 8000 RowL.prog w os
theorem runA (w : World) (os : OsState) : (endL w os).map (fun s => HandSHeadRun.looksF RowL.prog (boot_heap w.params) s.abs) = some true := by
  kernel_rfl
theorem runB (w : World) (os : OsState) : (endL w os).map (fun s => HandSHeadRun.seenQ viewL nsL (importedModules RowL.prog.main.body) (fun s => xlAt viewL [] s && recOk RowL.toRowW.records s) s.abs) = some (openGood viewL nsL) := by
  kernel_rfl
theorem runF (w : World) (os : OsState) : (endL w os).map (fun s => obsMG asL faL [] (HandSHeadRun.getT s)) = some (valA []) := by
  kernel_rfl
theorem runD0 (w : World) (os : OsState) : (endL w os).map (fun s => obsMG asL [] (fn0 ++ (fn1)) (HandSHeadRun.getT s)) = some (valA (fn0 ++ (fn1))) := by
  kernel_rfl
theorem runC (w : World) (os : OsState) : (endL w os).map obL = some (hkL.val w) := by
  have f0 := runF w os
  have d0 := runD0 w os
  cases e : endL w os with
  | none => rw [e] at f0; cases f0
  | some s =>
    rw [e] at f0 d0
    rw [Option.map_some] at f0 d0 ⊢
    have all : obsMG asL [] ((fn0 ++ (fn1))) (HandSHeadRun.getT s) = valA ((fn0 ++ (fn1))) := (Option.some.inj d0)
    have el : fnL = (fn0 ++ (fn1)) := rfl
    rw [← el] at all
    exact congrArg some (obs_all (Option.some.inj f0) all)
theorem runL (w : World) : HandSHeadRun.RunEq RowL viewL hkL obL 8000 nsL w := by
  intro os
  have a := runA w os
  have b := runB w os
  have c := runC w os
  show (endL w os).map (fun s => (HandSHeadRun.looksF RowL.prog (boot_heap w.params) s.abs, HandSHeadRun.seenQ viewL nsL (importedModules RowL.prog.main.body) (fun s => xlAt viewL [] s && recOk RowL.toRowW.records s) s.abs, obL s)) = _
  cases e : endL w os with
  | none => rw [e] at a; cases a
  | some s =>
    rw [e] at a b c
    rw [Option.map_some] at a b c ⊢
    rw [Option.some.inj a, Option.some.inj b, Option.some.inj c]
    rfl
end
theorem dflt_ok {K : PySem.W.Frag} {p : Addr} (c : relM K (.tup []) (.ref p) = true) (H : Hp) : SqT K H p [] := by
  obtain ⟨v, r, hv⟩ := relM_ok _ c
  obtain ⟨q, vs, e1, sq, rs⟩ := VR_tup.mp (hv H)
  subst e1
  rw [VRs_nil] at rs
  subst rs
  have r2 : Value.ref p = Value.ref q := r
  cases r2
  exact sq
theorem txt_of {K : PySem.W.Frag} {h : Heap} {mg : Str → Option Value} (X : K.In h) (G : h.Ns mainGlobals mg) (c : SaysM faL fnL K) : Txt K mg (ownK K) where
  isi := isi_ok (c.fact 0 rfl)
  ins := insC_ok (c.fact 0 rfl)
  in_Weaving := by simp [ownK, cAt]
  c_Weaving := He.cls_ok (c.fact 2 rfl)
  mk_Weaving := ⟨_, He.mkr_ok (c.fact 3 rfl)⟩
  o_Weaving := opc_ok (c.fact 5 rfl)
  sq_Weaving := (c.fact 6 rfl)
  G_Weaving := He.glo_ok X G (c.fact 1 rfl)
  eq_Weaving := eqf_ok (c.fact 4 rfl)
  oe_InvalidText := oex_ok (c.fact 7 rfl)
  no_InvalidText := He.noat_ok (c.fact 8 rfl)
  ef_InvalidText := errF_ok (c.fact 9 rfl)
  oe_InvalidEvent := oex_ok (c.fact 10 rfl)
  no_InvalidEvent := He.noat_ok (c.fact 11 rfl)
  ef_InvalidEvent := errF_ok (c.fact 12 rfl)
  oe_NoEvent := oexI_ok (c.fact 13 rfl)
  no_NoEvent := He.noat_ok (c.fact 14 rfl)
  ef_NoEvent := errF_ok (c.fact 15 rfl)
  G_InvalidEvent := He.glo_ok X G (c.fact 16 rfl)
  G_InvalidText := He.glo_ok X G (c.fact 17 rfl)
  G_NoEvent := He.glo_ok X G (c.fact 18 rfl)
  n_Weaving_events := He.noat_ok (c.fact 19 rfl)
  b_abs := He.free_ok X G (c.fact 20 rfl)
  b_all := He.free_ok X G (c.fact 21 rfl)
  b_bool := He.free_ok X G (c.fact 22 rfl)
  b_enumerate := He.free_ok X G (c.fact 23 rfl)
  b_int := He.free_ok X G (c.fact 24 rfl)
  b_isinstance := He.free_ok X G (c.fact 25 rfl)
  b_len := He.free_ok X G (c.fact 26 rfl)
  b_list := He.free_ok X G (c.fact 27 rfl)
  b_range := He.free_ok X G (c.fact 28 rfl)
  b_set := He.free_ok X G (c.fact 29 rfl)
  b_sorted := He.free_ok X G (c.fact 30 rfl)
  b_str := He.free_ok X G (c.fact 31 rfl)
  b_tuple := He.free_ok X G (c.fact 32 rfl)
  g_FIGURES := gc_ok X G (c.fact 33 rfl)
  g_KINDS := gc_ok X G (c.fact 34 rfl)
  g_MOST_FIGURES := gc_ok X G (c.fact 35 rfl)
  g_MOST_PARTS := gc_ok X G (c.fact 36 rfl)
  g_OF_NOBODY := gc_ok X G (c.fact 37 rfl)
  g_Weaving := glo_gc X G (c.fact 1 rfl)
  d_is_integer := let ⟨fd, F⟩ := c.def_ 0 (d := D_is_integer) rfl; ⟨_, fd, He.glo_ok X G (c.fact 38 rfl), F⟩
  d_is_sequence := let ⟨fd, F⟩ := c.def_ 1 (d := D_is_sequence) rfl; ⟨_, fd, He.glo_ok X G (c.fact 39 rfl), F⟩
  d_is_event := let ⟨fd, F⟩ := c.def_ 2 (d := D_is_event) rfl; ⟨_, fd, He.glo_ok X G (c.fact 40 rfl), F⟩
  d_InvalidEvent___init__ := let ⟨fd, F⟩ := c.def_ 3 (d := D_InvalidEvent___init__) rfl; ⟨_, fd, He.meth_ok (c.fact 41 rfl), F⟩
  d_InvalidText___init__ := let ⟨fd, F⟩ := c.def_ 4 (d := D_InvalidText___init__) rfl; ⟨_, fd, He.meth_ok (c.fact 42 rfl), F⟩
  d_NoEvent___init__ := let ⟨fd, F⟩ := c.def_ 5 (d := D_NoEvent___init__) rfl; ⟨_, fd, He.meth_ok (c.fact 43 rfl), F⟩
  d_Weaving___init__ := let ⟨fd, F⟩ := c.def_ 6 (d := D_Weaving___init__) rfl; ⟨He.dflAt ("Weaving", some "__init__") 0 K, fun H => dflt_ok (c.fact 45 rfl) H, _, fd, He.meth_ok (c.fact 44 rfl), F⟩
  d_Weaving___len__ := let ⟨fd, F⟩ := c.def_ 7 (d := D_Weaving___len__) rfl; ⟨_, fd, He.meth_ok (c.fact 46 rfl), F⟩
  d_Weaving___eq__ := let ⟨fd, F⟩ := c.def_ 8 (d := D_Weaving___eq__) rfl; ⟨_, fd, He.meth_ok (c.fact 47 rfl), F⟩
  d_Weaving___add__ := let ⟨fd, F⟩ := c.def_ 9 (d := D_Weaving___add__) rfl; ⟨_, fd, He.meth_ok (c.fact 48 rfl), F⟩
  d_Weaving___mul__ := let ⟨fd, F⟩ := c.def_ 10 (d := D_Weaving___mul__) rfl; ⟨_, fd, He.meth_ok (c.fact 49 rfl), F⟩
  d_Weaving___rmul__ := let ⟨fd, F⟩ := c.def_ 11 (d := D_Weaving___rmul__) rfl; ⟨_, fd, He.meth_ok (c.fact 50 rfl), F⟩
  d_Weaving___le__ := let ⟨fd, F⟩ := c.def_ 12 (d := D_Weaving___le__) rfl; ⟨_, fd, He.meth_ok (c.fact 51 rfl), F⟩
  d_Weaving___lt__ := let ⟨fd, F⟩ := c.def_ 13 (d := D_Weaving___lt__) rfl; ⟨_, fd, He.meth_ok (c.fact 52 rfl), F⟩
  d_Weaving___gt__ := let ⟨fd, F⟩ := c.def_ 14 (d := D_Weaving___gt__) rfl; ⟨_, fd, He.meth_ok (c.fact 53 rfl), F⟩
  d_Weaving___getitem__ := let ⟨fd, F⟩ := c.def_ 15 (d := D_Weaving___getitem__) rfl; ⟨_, fd, He.meth_ok (c.fact 54 rfl), F⟩
  d_Weaving_uploads := let ⟨fd, F⟩ := c.def_ 16 (d := D_Weaving_uploads) rfl; ⟨_, _, fd, prop_ok (c.fact 55 rfl), F⟩
  d_Weaving_renumbered := let ⟨fd, F⟩ := c.def_ 17 (d := D_Weaving_renumbered) rfl; ⟨_, fd, He.meth_ok (c.fact 56 rfl), F⟩
  d_event_text := let ⟨fd, F⟩ := c.def_ 18 (d := D_event_text) rfl; ⟨_, fd, He.glo_ok X G (c.fact 57 rfl), F⟩
  d_Weaving___str__ := let ⟨fd, F⟩ := c.def_ 19 (d := D_Weaving___str__) rfl; ⟨_, fd, He.meth_ok (c.fact 58 rfl), F⟩
  d_number_in := let ⟨fd, F⟩ := c.def_ 20 (d := D_number_in) rfl; ⟨_, fd, He.glo_ok X G (c.fact 59 rfl), F⟩
  d_event_in := let ⟨fd, F⟩ := c.def_ 21 (d := D_event_in) rfl; ⟨_, fd, He.glo_ok X G (c.fact 60 rfl), F⟩
  d_Weaving_read := let ⟨fd, F⟩ := c.def_ 22 (d := D_Weaving_read) rfl; ⟨_, _, fd, (cm_ok (c.fact 61 rfl)).1, (cm_ok (c.fact 61 rfl)).2, F⟩
  d__law_deal := let ⟨fd, F⟩ := c.def_ 23 (d := D__law_deal) rfl; ⟨_, fd, He.glo_ok X G (c.fact 62 rfl), F⟩
  d__law_draw := let ⟨fd, F⟩ := c.def_ 24 (d := D__law_draw) rfl; ⟨_, fd, He.glo_ok X G (c.fact 63 rfl), F⟩
  d__law_pick := let ⟨fd, F⟩ := c.def_ 25 (d := D__law_pick) rfl; ⟨_, fd, He.glo_ok X G (c.fact 64 rfl), F⟩
  d__law_event := let ⟨fd, F⟩ := c.def_ 26 (d := D__law_event) rfl; ⟨_, fd, He.glo_ok X G (c.fact 65 rfl), F⟩
  d__law_numbers := let ⟨fd, F⟩ := c.def_ 27 (d := D__law_numbers) rfl; ⟨_, fd, He.glo_ok X G (c.fact 66 rfl), F⟩
  d__law_events := let ⟨fd, F⟩ := c.def_ 28 (d := D__law_events) rfl; ⟨_, fd, He.glo_ok X G (c.fact 67 rfl), F⟩
  d_law := let ⟨fd, F⟩ := c.def_ 29 (d := D_law) rfl; ⟨_, fd, He.glo_ok X G (c.fact 68 rfl), F⟩
end MM
end
section
namespace MM
open PySem PySem.Spec PyProof.Rows L2
variable {P : Program} {w : World} {K : PySem.W.Frag} {mg : Str → Option Value} {base : Heap} {own : List Addr}
abbrev S_is_integer (own : List Addr) : Spec := pure1 (okInt own) fun x _ => .bl (isInt x)
def okIntS (own : List Addr) : MV → MH → Prop := fun x h => okInt own x h ∨ ∃ a b c, x = .slc a b c
@[simp] theorem okIntS_i {own : List Addr} {i : Int} {h : MH} : okIntS own (.int i) h = True := eq_true (.inl ⟨_, rfl, fun C z => by cases z⟩)
@[simp] theorem okIntS_s {own : List Addr} {a b c : Option Int} {h : MH} : okIntS own (.slc a b c) h = True := eq_true (.inr ⟨_, _, _, rfl⟩)
theorem f_is_integerS (t : Txt K mg own) : Fn P w K mg base 1 "is_integer" (pure1 (okIntS own) fun x _ => .bl (isInt x)) := by
  have nd : ((["thing"] : List Str)).Nodup := by decide +kernel
  refine t.d_is_integer.fn (N := (["thing"] : List Str)) sc_is_integer (fun _ _ _ _ _ _ us hl => match us, hl with | [_], _ => rfl) (fun args h q e ⟨x, e1, _⟩ => by rw [e1]; rfl) fun f cdv A outer s H E on => ⟨_, (ss_last (ss_ret (se_and (se_callB (cm_isiS t.isi) t.b_isinstance (by decide +kernel) (by rfl) (sa_cons (sv 0) (sa_cons (se_bltn (n := "int") t.b_int (by decide +kernel) (by rfl)) sa_nil))) (se_one (se_not (se_callB (cm_isiS t.isi) t.b_isinstance (by decide +kernel) (by rfl) (sa_cons (sv 0) (sa_cons (se_bltn (n := "bool") t.b_bool (by decide +kernel) (by rfl)) sa_nil)))))))), ?_⟩
  rintro args h q e ⟨x, rfl, ⟨ty, et, ho⟩ | ⟨a, b, c, rfl⟩, z⟩
  · show (_ : WS) [some x] h _
    have e0 : ∀ (n : String) (q : QV) (e : QX), spIsiS (isiT own) [x, .ty n] h q e = spIsi (isiT own) [x, .ty n] h q e := fun n q e => by
      cases x <;> first | rfl | cases et
    simp [e0]
    refine typK_of et ?_
    cases x with
    | ref p =>
      simp only [typM] at et
      split at et
      all_goals (try cases et)
      all_goals (simp [names7, names5, isB, ho, e0]; exact QV.wk_i z)
    | obj C ns xs => cases et; simp [names7, names5, isB, ho C rfl, e0]; exact QV.wk_i z
    | _ => cases et <;> simp [names7, names5, isB, e0] <;> exact QV.wk_i z
  · show (_ : WS) [some (.slc a b c)] h _
    simp [names7, names5, isB]
    exact QV.wk_i z
theorem f_is_integer (t : Txt K mg own) : Fn P w K mg base 1 "is_integer" (S_is_integer own) := (f_is_integerS t).imp fun a h q e ⟨x, e1, ok, z⟩ => ⟨x, e1, .inl ok, z⟩
end MM
end
section
namespace MM
open PySem PySem.Spec PyProof.Rows L2
variable {P : Program} {w : World} {K : PySem.W.Frag} {mg : Str → Option Value} {base : Heap} {own : List Addr}
def seqB (h : MH) (x : MV) : Bool := (seqM h x).isSome
theorem f_is_sequence (t : Txt K mg own) : Fn P w K mg base 1 "is_sequence" (pure1 (fun x h => ∃ ty, typM h x = some ty ∧ ∀ C, ty = .ref C → C ∈ own) fun x h => .bl (seqB h x)) := by
  have nd : ((["thing"] : List Str)).Nodup := by decide +kernel
  refine t.d_is_sequence.fn (N := (["thing"] : List Str)) sc_is_sequence (fun _ _ _ _ _ _ us hl => match us, hl with | [_], _ => rfl) (fun args h q e ⟨x, e1, _⟩ => by rw [e1]; rfl) fun f cdv A outer s H E on => ⟨_, (ss_last (ss_ret (se_callB (cm_isi t.isi) t.b_isinstance (by decide +kernel) (by rfl) (sa_cons (sv 0) (sa_cons (se_tup (sa_cons (se_bltn (n := "list") t.b_list (by decide +kernel) (by rfl)) (sa_cons (se_bltn (n := "tuple") t.b_tuple (by decide +kernel) (by rfl)) sa_nil))) sa_nil))))), ?_⟩
  rintro args h q e ⟨x, rfl, ⟨ty, et, ho⟩, z⟩
  show (_ : WS) [some x] h _
  simp
  refine ⟨by decide, typK_of et ?_⟩
  unfold seqB at z
  cases x with
  | ref p =>
    simp only [typM] at et
    simp only [seqM] at z
    split at et
    all_goals (try cases et)
    all_goals (rename_i ep; rw [ep] at z; simp [names7, names5, isB, ho]; exact QV.wk_i z)
  | obj C ns xs => cases et; simp [names7, names5, isB, ho C rfl]; exact QV.wk_i z
  | _ => cases et <;> simp [names7, names5, isB] <;> exact QV.wk_i z
end MM
end
section
namespace MM
open PySem PySem.Spec PyProof.Rows L2
variable {P : Program} {w : World} {K : PySem.W.Frag} {mg : Str → Option Value} {base : Heap} {own : List Addr}
theorem r_InvalidEvent (t : Txt K mg own) : ErrM P w K mg base "InvalidEvent" "at" (er K "InvalidEvent") :=
  ErrT.m (qual := "InvalidEvent.__init__") (st := s_InvalidEvent___init__) ⟨t.oe_InvalidEvent, t.no_InvalidEvent, t.G_InvalidEvent, t.d_InvalidEvent___init__⟩ ⟨sc_InvalidEvent___init__, fun _ _ _ _ _ _ _ _ _ _ _ _ => pss_one (ps_ost (pv 0) (pv 1)), fun _ _ _ _ _ _ us hl => match us, hl with | [_, _], _ => rfl⟩
end MM
end
section
namespace MM
open PySem PySem.Spec PyProof.Rows L2
variable {P : Program} {w : World} {K : PySem.W.Frag} {mg : Str → Option Value} {base : Heap} {own : List Addr}
theorem r_InvalidText (t : Txt K mg own) : ErrM P w K mg base "InvalidText" "at" (er K "InvalidText") :=
  ErrT.m (qual := "InvalidText.__init__") (st := s_InvalidText___init__) ⟨t.oe_InvalidText, t.no_InvalidText, t.G_InvalidText, t.d_InvalidText___init__⟩ ⟨sc_InvalidText___init__, fun _ _ _ _ _ _ _ _ _ _ _ _ => pss_one (ps_ost (pv 0) (pv 1)), fun _ _ _ _ _ _ us hl => match us, hl with | [_, _], _ => rfl⟩
end MM
end
section
namespace MM
open PySem PySem.Spec PyProof.Rows L2
variable {P : Program} {w : World} {K : PySem.W.Frag} {mg : Str → Option Value} {base : Heap} {own : List Addr}
theorem r_NoEvent (t : Txt K mg own) : ErrM P w K mg base "NoEvent" "at" (er K "NoEvent") :=
  ErrTI.m (qual := "NoEvent.__init__") (st := s_NoEvent___init__) ⟨t.oe_NoEvent, t.no_NoEvent, t.G_NoEvent, t.d_NoEvent___init__⟩ ⟨sc_NoEvent___init__, fun _ _ _ _ _ _ _ _ _ _ _ _ => pss_one (ps_ostI (pv 0) (pv 1)), fun _ _ _ _ _ _ us hl => match us, hl with | [_, _], _ => rfl⟩
end MM
end
section
namespace MM
open PySem PySem.Spec PyProof.Rows L2
variable {P : Program} {w : World} {K : PySem.W.Frag} {mg : Str → Option Value} {base : Heap} {own : List Addr}
def txtP : MV → Str
  | .str z => z
  | .int i => toString i
  | _ => ""
def txtE : MV → Str
  | .tup xs => Txt.join " " (xs.map txtP)
  | _ => ""
theorem ev_parts {x : MV} (g : GoodEv x) : ∃ xs, x = .tup xs ∧ xs.length ≤ 4 ∧ ∀ y ∈ xs, (∃ z : Str, y = .str z ∧ z.length ≤ 10) ∨ ∃ i : Int, y = .int i ∧ 0 ≤ i ∧ i ≤ 1000000000 := by
  rcases g with ⟨k, hk, rfl⟩ | ⟨k, u, hk, hu, rfl⟩ | ⟨u, p, v, hu, hp, hp3, hv, hv2, rfl⟩
  · refine ⟨_, rfl, by simp, fun y m => ?_⟩
    simp only [List.mem_cons, List.mem_nil_iff, or_false] at m hk
    subst m
    rcases hk with rfl | rfl <;> exact .inl ⟨_, rfl, by decide +kernel⟩
  · refine ⟨_, rfl, by simp, fun y m => ?_⟩
    simp only [List.mem_cons, List.mem_nil_iff, or_false] at m hk
    rcases m with rfl | rfl
    · rcases hk with rfl | rfl | rfl | rfl | rfl | rfl <;> exact .inl ⟨_, rfl, by decide +kernel⟩
    · exact .inr ⟨_, rfl, hu.1, hu.2⟩
  · refine ⟨_, rfl, by simp, fun y m => ?_⟩
    simp only [List.mem_cons, List.mem_nil_iff, or_false] at m
    rcases m with rfl | rfl | rfl | rfl
    · exact .inl ⟨_, rfl, by decide +kernel⟩
    · exact .inr ⟨_, rfl, hu.1, hu.2⟩
    · exact .inr ⟨_, rfl, hp, by omega⟩
    · exact .inr ⟨_, rfl, by omega, hv2⟩
theorem txtP_len {y : MV} (h : (∃ z : Str, y = .str z ∧ z.length ≤ 10) ∨ ∃ i : Int, y = .int i ∧ 0 ≤ i ∧ i ≤ 1000000000) : (txtP y).length ≤ 20 := by
  rcases h with ⟨z, rfl, l⟩ | ⟨i, rfl, h0, h1⟩
  · exact Nat.le_trans l (by decide)
  · have := int_text_length_le10 (a := i) (k := 13) (by decide) (by omega)
    show (Str.ofString (toString i)).length ≤ 20
    rw [PySem.ofString_length]
    omega
theorem sum_le {zs : List Str} {m : Nat} (h : ∀ z ∈ zs, z.length ≤ m) : (zs.map (·.length)).sum ≤ zs.length * m := by
  induction zs with
  | nil => simp
  | cons z zs ih =>
    have h1 := h z (by simp)
    have h2 := ih fun y n => h y (by simp [n])
    simp only [List.map_cons, List.sum_cons, List.length_cons, Nat.add_mul]
    omega
theorem join_le {a : Str} {zs : List Str} {m : Nat} (h : ∀ z ∈ zs, z.length ≤ m) : (Txt.join a zs).length ≤ zs.length * (m + a.length) := by
  show (Builtin.Str.glued a zs).length ≤ _
  rw [StrLaws.glued_eq_join]
  induction zs with
  | nil => exact Nat.zero_le _
  | cons z zs ih =>
    have h1 := h z (by simp)
    have h2 := ih fun y n => h y (by simp [n])
    cases zs with
    | nil =>
      show z.length ≤ 1 * (m + a.length)
      omega
    | cons y r =>
      show (z ++ a ++ Str.join a (y :: r)).length ≤ _
      rewrite [Str.length_append]
      rw [Str.length_append]
      simp only [List.length_cons, Nat.add_mul] at h2 ⊢
      omega
theorem f_event_text (t : Txt K mg own) : Fn P w K mg base 1 "event_text" (pure1 (fun x _ => GoodEv x) fun x _ => .str (txtE x)) := by
  have nd : ((["event", "part"] : List Str)).Nodup := by decide +kernel
  refine t.d_event_text.fn (N := (["event", "part"] : List Str)) sc_event_text (fun _ _ _ _ _ _ us hl => match us, hl with | [_], _ => rfl) (fun args h q e ⟨x, e1, _⟩ => by rw [e1]; rfl) fun f cdv A outer s H E on => ⟨_, (ss_last (ss_ret (se_bm ok_join PySem.F.plainAttrs_str PySem.F.slot_str_join PySem.F.type_str_join mt_join se_str (sa_cons (se_fz (se_lc [("part", 1)] rfl nd (si_seq (sv 0)) (by kernel_rfl) (go_name (i := 1) (by decide)) (fun _ _ _ _ _ => pg_name (i := 1) nd rfl (.inl rfl)) (fun _ _ _ _ _ => sts_nil) (fun _ _ _ _ _ => (se_callTy cm_str2 t.b_str (by decide +kernel) (by rfl) (sa_cons (sv 1) sa_nil))))) sa_nil)))), ?_⟩
  rintro args h q e ⟨x, rfl, g, z⟩
  show (_ : WS) [some x, none] h _
  obtain ⟨xs, rfl, lx, hx⟩ := ev_parts g
  have hs : 4 < sizeLine := by decide
  simp
  refine lc_map (fun y => .str (txtP y)) (by omega) (fun _ _ _ => rfl) (fun D acc y m n qy qn kk => ?_) ?_
  · dsimp only [wipeM, List.set]
    rcases hx y m with ⟨z, rfl, l⟩ | ⟨i, rfl, h0, h1⟩
    · simp
      exact kk
    · simp
      refine ⟨?_, kk⟩
      have : i.natAbs < 2 ^ 40 := by omega
      by_cases hz : i.natAbs = 0
      · rw [hz]; decide
      · have := (Nat.log2_lt hz).mpr this
        omega
  · have l1 : ((xs.map txtP).map (·.length)).sum ≤ (xs.map txtP).length * 20 := sum_le fun z m => by
      obtain ⟨y, my, rfl⟩ := List.mem_map.mp m
      exact txtP_len (hx y my)
    have e : (unS ∘ fun y => .str (txtP y)) = txtP := rfl
    simp at l1 ⊢
    simp only [e]
    have e1 : (Str.ofString " ").length = 1 := by decide +kernel
    rw [e1]
    refine ⟨?_, QV.wk_i z⟩
    show (xs.map (fun y => (txtP y).length)).sum + xs.length * 1 ≤ 16777216
    have l2 : (xs.map (fun y => (txtP y).length)).sum ≤ xs.length * 20 := l1
    omega
theorem txtE_len {x : MV} (g : GoodEv x) : (txtE x).length ≤ 84 := by
  obtain ⟨xs, rfl, lx, hx⟩ := ev_parts g
  have := join_le (a := " ") (zs := xs.map txtP) (m := 20) fun z m => by
    obtain ⟨y, my, rfl⟩ := List.mem_map.mp m
    exact txtP_len (hx y my)
  have e1 : (Str.ofString " ").length = 1 := by decide +kernel
  rw [e1, List.length_map] at this
  show (Txt.join " " (xs.map txtP)).length ≤ 84
  omega
end MM
end
section
namespace MM
open PySem PySem.Spec PyProof.Rows L2
variable {P : Program} {w : World} {K : PySem.W.Frag} {mg : Str → Option Value} {base : Heap} {own : List Addr}
def figB (c : Nat) : Bool := decide (48 ≤ c ∧ c ≤ 57)
/-- the number from 0 on that a word writes -/
def numT (z : Str) : Option Int :=
  if 1 ≤ z.length ∧ z.length ≤ 10 ∧ z.cps.toList.all figB = true ∧ ¬ (1 < z.length ∧ z.cps.toList[0]? = some 48) then PySem.intText? z else none
def numM (z : Str) : MV := match numT z with | some i => .int i | none => .non
theorem fig_in (c : Nat) : decide (c ∈ (Str.ofString "0123456789").cps.toList) = figB c := by
  have e : (Str.ofString "0123456789").cps.toList = [48, 49, 50, 51, 52, 53, 54, 55, 56, 57] := by decide +kernel
  rw [e]
  unfold figB
  rw [decide_eq_decide]
  simp
  omega
def figM : MV → Bool
  | .str z => z.cps.toList.all figB
  | _ => false
@[simp] theorem figM_s {c : Nat} : figM (.str ⟨#[c]⟩) = figB c := by simp [figM]
theorem f_number_in (t : Txt K mg own) : Fn P w K mg base 1 "number_in" (fun args h q _ => ∃ z : Str, args = [.str z] ∧ z.length ≤ 1000000 ∧ q (numM z) h) := by
  have nd : ((["word", "sign"] : List Str)).Nodup := by decide +kernel
  refine t.d_number_in.fn (N := (["word", "sign"] : List Str)) sc_number_in (fun _ _ _ _ _ _ us hl => match us, hl with | [_], _ => rfl) (fun args h q e ⟨z, e1, _⟩ => by rw [e1]; rfl) fun f cdv A outer s H E on => ⟨_, (ss_cons (ss_if (PW.pt (sw_or (st_not (st_chain ok_le ok_le op_le op_le se_int (se_callB cm_len t.b_len (by decide +kernel) (by rfl) (sa_cons (sv 0) sa_nil)) (se_gc t.g_MOST_FIGURES))) (sw_or1 (st_not (st_val (se_callB (cm_allF rfl) t.b_all (by decide +kernel) (by rfl) (sa_cons (se_fz (se_lc [("sign", 1)] rfl nd (si_str (sv 0)) (by kernel_rfl) (go_name (i := 1) (by decide)) (fun _ _ _ _ _ => pg_name (i := 1) nd rfl (.inl rfl)) (fun _ _ _ _ _ => sts_nil) (fun _ _ _ _ _ => (se_cmp ok_in (op_inM (hu_on (On.blk on))) (sv 1) (se_gc t.g_FIGURES) (by with_unfolding_all rfl))))) sa_nil))))))) (ss_last (ss_ret se_non)) ss_nil) (ss_cons (ss_if (PW.pt (sw_and (st_cmp ok_gt op_gt (se_callB cm_len t.b_len (by decide +kernel) (by rfl) (sa_cons (sv 0) sa_nil)) se_int (by with_unfolding_all rfl)) (sw_and1 (st_cmp ok_eq (op_eqM (hu64 on)) (se_ix (sv 0) se_int) se_str (by with_unfolding_all rfl))))) (ss_last (ss_ret se_non)) ss_nil) (ss_last (ss_ret (se_callTy cm_int t.b_int (by decide +kernel) (by rfl) (sa_cons (sv 0) sa_nil)))))), ?_⟩
  rintro args h q e ⟨z, rfl, lz, k⟩
  have hs : 1000000 < sizeLine := by decide
  show (_ : WS) [some (.str z), none] h _
  simp
  refine ⟨by omega, ?_⟩
  have no : ¬ (1 ≤ z.length ∧ z.length ≤ 10 ∧ z.cps.toList.all figB = true ∧ ¬ (1 < z.length ∧ z.cps.toList[0]? = some 48)) → QV.wk q .non h := fun n => by
    unfold numM numT at k
    rw [if_neg n] at k
    exact QV.wk_i k
  split
  · rename_i h1
    split
    · rename_i h2
      exact no (by omega)
    · rename_i h2
      have hl : (signsM z).length = z.length := by simp [signsM, Str.length]
      refine lc_map (fun y => .bl (figM y)) (by rw [hl]; omega) (fun _ _ _ => trivial) (fun D acc y m n qy qn kk => ?_) ?_
      · dsimp only [wipeM, List.set]
        obtain ⟨c, hc, rfl⟩ := List.mem_map.mp m
        have kk : qy (.bl (figB c)) (h.put D (.lst acc)) := by simpa using kk
        simp
        rw [← fig_in c] at kk
        simpa using kk
      · simp
        split
        · rename_i hx
          obtain ⟨y, m, ey⟩ := hx
          refine no fun ⟨_, _, a, _⟩ => ?_
          obtain ⟨c, hc, rfl⟩ := List.mem_map.mp m
          rw [figM_s, List.all_eq_true.mp a c hc] at ey
          cases ey
        · rename_i hx
          have ha : z.cps.toList.all figB = true := List.all_eq_true.mpr fun c hc => by
            cases e : figB c with
            | true => rfl
            | false => exact absurd ⟨.str ⟨#[c]⟩, List.mem_map.mpr ⟨c, hc, rfl⟩, by rw [figM_s, e]⟩ hx
          refine ⟨by omega, ?_⟩
          have ln : z.cps.toList.length = z.length := Array.length_toList
          have ne : z.cps.toList ≠ [] := fun e => by
            rw [e] at ln
            simp at ln
            omega
          have ad : PySem.NumText.AllDigits z.cps.toList := fun c hc => by
            have := List.all_eq_true.mp ha c hc
            simpa [figB] using this
          have it := PySem.intText_digits ad ne (by omega)
          have fin : ¬ (1 < z.length ∧ z.cps.toList[0]? = some 48) → QV.wk q (.int ((PySem.NumText.digitsVal z.cps.toList : Nat) : Int)) h := fun n => by
            unfold numM numT at k
            rw [if_pos ⟨by omega, by omega, ha, n⟩, it] at k
            exact QV.wk_i k
          split
          · rename_i h3
            refine ⟨by omega, ?_⟩
            refine atIK_nat (by decide) (by omega) fun c ec => ?_
            have ec : z.cps.toList[0]? = some c := ec
            simp
            have e0 : Str.ofString "0" = ⟨#[48]⟩ := by decide +kernel
            split
            · rename_i e1
              rw [e0] at e1
              injection e1 with e2
              have : c = 48 := by simpa using e2
              subst this
              exact no fun ⟨_, _, _, n⟩ => n ⟨by omega, ec⟩
            · rename_i e1
              refine ⟨_, it, by omega, fin fun ⟨_, e2⟩ => e1 ?_⟩
              rw [ec] at e2
              cases e2
              exact e0.symm
          · rename_i h3
            exact ⟨_, it, by omega, fin (fun ⟨a, _⟩ => by omega)⟩
  · rename_i h1
    exact no (by omega)
end MM
end
section
namespace MM
open PySem PySem.Spec PyProof.Rows L2
variable {P : Program} {w : World} {K : PySem.W.Frag} {mg : Str → Option Value} {base : Heap} {own : List Addr}
/-- the draw, the source open -/
def S_open : Spec := fun args h q _ => ∃ (d g : Addr) (ns : List Int) (now mixed turn m : Int), args = [.ref d, .int m] ∧ d ≠ g ∧ h.at_ d = some (dealD g now mixed turn) ∧ h.at_ g = some (.lst (ns.map MV.int)) ∧ (∀ z ∈ ns, Small z) ∧ Small now ∧ 1 ≤ mixed ∧ mixed ≤ 2147483647 ∧ 0 ≤ turn ∧ turn ≤ 2 ^ 64 ∧ 1 ≤ m ∧ m ≤ 1000000 ∧ ns.length ≤ sizeLine ∧
  ∀ (k : Int) (ns' : List Int) (now' mixed' turn' : Int), 0 ≤ k → k < m → (∃ l, ns = ns' ++ l) → Small now' → 1 ≤ mixed' → mixed' ≤ 2147483647 → 0 ≤ turn' → turn' ≤ turn + 1 → q (.int k) ((h.put g (.lst (ns'.map MV.int))).put d (dealD g now' mixed' turn'))
theorem f_open (t : Txt K mg own) : Fn P w K mg base 1 "_law_draw" S_open := by
  have nd : ((["_law_deal_here", "_law_many", "_law_first", "_law_second", "_law_digit"] : List Str)).Nodup := by decide +kernel
  refine t.d__law_draw.fn (N := (["_law_deal_here", "_law_many", "_law_first", "_law_second", "_law_digit"] : List Str)) sc__law_draw (fun _ _ _ _ _ _ us hl => match us, hl with | [_, _], _ => rfl) (fun args h q e ⟨d, g, ns, now, mixed, turn, m, e1, _⟩ => by rw [e1]; rfl) fun f cdv A outer s H E on => ⟨_, (ss_cons (ss_while (passes_of rfl) (PW.pt (sw_and (st_cmp ok_eq (op_eqM (hu64 on)) (se_get (hu1 on) (sv 0) se_str) se_int (by with_unfolding_all rfl)) (sw_and1 (st_cmp ok_gt op_gt (se_callB cm_len t.b_len (by decide +kernel) (by rfl) (sa_cons (se_get (hu1 on) (sv 0) se_str) sa_nil)) se_int (by with_unfolding_all rfl))))) (ss_last (ss_put (hu1 on) (sv 0) se_str (se_bm0 ok_pop PySem.F.plainAttrs_list PySem.F.slot_list_pop PySem.F.type_list_pop mt_pop (se_get (hu1 on) (sv 0) se_str))))) (ss_cons (ss_if (st_cmp ok_gt op_gt (se_get (hu1 on) (sv 0) se_str) se_int (by with_unfolding_all rfl)) (ss_cons (sset 4 nd (se_op ok_mod op_mod (se_callTy cm_int t.b_int (by decide +kernel) (by rfl) (sa_cons (se_get (hu1 on) (sv 0) se_str) sa_nil)) (sv 1))) (ss_cons (ss_put (hu1 on) (sv 0) se_str (se_op ok_div op_fdiv (se_get (hu1 on) (sv 0) se_str) (sv 1))) (ss_last (ss_ret (sv 4))))) ss_nil) (ss_cons (ss_put (hu1 on) (sv 0) se_str (se_op ok_add2 op_add2 (se_get (hu1 on) (sv 0) se_str) se_int)) (ss_cons (sset 2 nd (se_op ok_mod op_mod (se_callTy cm_int t.b_int (by decide +kernel) (by rfl) (sa_cons (se_op ok_add2 op_add2 (se_op ok_mul2 op_mul2 (se_get (hu1 on) (sv 0) se_str) se_int) (se_op ok_mul2 op_mul2 (se_get (hu1 on) (sv 0) se_str) se_int)) sa_nil)) se_int)) (ss_cons (sset 3 nd (se_op ok_mod op_mod (se_callTy cm_int t.b_int (by decide +kernel) (by rfl) (sa_cons (se_op ok_add2 op_add2 (se_op ok_mul2 op_mul2 (sv 2) (sv 2)) (se_op ok_mul2 op_mul2 (se_get (hu1 on) (sv 0) se_str) se_int)) sa_nil)) se_int)) (ss_cons (ss_put (hu1 on) (sv 0) se_str (se_op ok_add2 op_add2 (se_op ok_mod op_mod (se_callTy cm_int t.b_int (by decide +kernel) (by rfl) (sa_cons (se_op ok_add2 op_add2 (se_op ok_mul2 op_mul2 (sv 3) se_int) (sv 2)) sa_nil)) se_int) se_int)) (ss_last (ss_ret (se_op ok_mod op_mod (se_callTy cm_int t.b_int (by decide +kernel) (by rfl) (sa_cons (se_op ok_add2 op_add2 (se_op ok_div op_fdiv (sv 3) se_int) (sv 2)) sa_nil)) (sv 1)))))))))), ?_⟩
  rintro args h q e ⟨d, g, ns, now, mixed, turn, m, rfl, hdg, ed, eg, hns, hnow, m1, m2, t0, t1, hm, hm2, hl, z⟩
  have hgd : g ≠ d := fun z => hdg z.symm
  have h4 : 4 < sizeLine := by decide
  have hm0 : 0 < m := by omega
  have hm3 : m < 1073741824 := by omega
  show (_ : WS) [some (.ref d), some (.int m), none, none, none] h _
  simp
  refine while_rule (fun n ρ h' => ρ = [some (.ref d), some (.int m), none, none, none] ∧ ∃ (ns' : List Int) (now' : Int), n = ns'.length ∧ (∃ l, ns = ns' ++ l) ∧ Small now' ∧ h' = (h.put g (.lst (ns'.map MV.int))).put d (dealD g now' mixed turn)) ns.length ⟨rfl, ns, now, rfl, ⟨[], by simp⟩, hnow, ?_⟩ ?_
  · rw [MH.put_id eg]
    exact (MH.put_id ed).symm
  · rintro n ρ h' ⟨rfl, ns', now', rfl, ⟨l, hl'⟩, hnow', rfl⟩ N hN
    have fin : ∀ (l' : List Int), (∃ l, ns = l' ++ l) → ∀ k now2 mixed2 turn2, 0 ≤ k → k < m → Small now2 → 1 ≤ mixed2 → mixed2 ≤ 2147483647 → 0 ≤ turn2 → turn2 ≤ turn + 1 → QV.wk q (.int k) ((h.put g (.lst (l'.map MV.int))).put d (.dK [(.inr "great", .ref g), (.inr "now", .int now2), (.inr "mixed", .int mixed2), (.inr "turn", .int turn2)])) := fun l' hl2 k now2 mixed2 turn2 a1 a2 a3 a4 a5 a6 a7 =>
      QV.wk_i (z k l' now2 mixed2 turn2 a1 a2 hl2 a3 a4 a5 a6 a7)
    rcases List.eq_nil_or_concat ns' with rfl | ⟨a, b, rfl⟩
    · simp [dealD, hdg, hgd, put_now, put_mixed, put_turn, h4, hm0, hm3]
      have f2 := fin [] ⟨ns, by simp⟩
      simp only [List.map_nil] at f2
      split
      · refine f2 _ _ _ _ (Int.emod_nonneg _ (by omega)) (Int.emod_lt_of_pos _ hm0) (hnow'.div hm) m1 m2 t0 (by omega)
      · have b1 : ∀ i c : Int, 0 < c → c < 2 ^ 69 → (i % c).natAbs < 2 ^ 70 := fun i c h0 h1 => by
          have := Int.emod_nonneg i (show c ≠ 0 by omega)
          have := Int.emod_lt_of_pos i h0
          omega
        refine ⟨mul_ok (by omega) (by decide), mul_ok (by omega) (by decide), mul_ok (b1 _ _ (by decide) (by decide)) (b1 _ _ (by decide) (by decide)), mul_ok (by omega) (by decide), mul_ok (b1 _ _ (by decide) (by decide)) (by decide), ?_⟩
        refine f2 _ _ _ _ (Int.emod_nonneg _ (by omega)) (Int.emod_lt_of_pos _ hm0) hnow' ?_ ?_ (by omega) (by omega)
        · have := Int.emod_nonneg ((((mixed * 48271 + (turn + 1) * 69621) % 2147483629 * ((mixed * 48271 + (turn + 1) * 69621) % 2147483629) + (turn + 1) * 7919) % 2147483563 * 40692 + (mixed * 48271 + (turn + 1) * 69621) % 2147483629)) (show (2147483647 : Int) ≠ 0 by decide)
          omega
        · have := Int.emod_lt_of_pos ((((mixed * 48271 + (turn + 1) * 69621) % 2147483629 * ((mixed * 48271 + (turn + 1) * 69621) % 2147483629) + (turn + 1) * 7919) % 2147483563 * 40692 + (mixed * 48271 + (turn + 1) * 69621) % 2147483629)) (show (0 : Int) < 2147483647 by decide)
          omega
    · rw [List.concat_eq_append, List.map_append, List.map_singleton]
      simp [dealD, hdg, hgd, put_now, put_mixed, put_turn, h4, hm0, hm3, MH.put3]
      have hb : Small b := hns b (by rw [hl']; simp)
      split
      · refine hN a.length _ _ (by simp) ⟨rfl, a, b, rfl, ⟨b :: l, by rw [hl']; simp⟩, hb, rfl⟩
      · split
        · have f2 := fin (a ++ [b]) ⟨l, by rw [hl', List.concat_eq_append]⟩
          simp only [List.map_append, List.map_singleton] at f2
          exact f2 _ _ _ _ (Int.emod_nonneg _ (by omega)) (Int.emod_lt_of_pos _ hm0) (hnow'.div hm) m1 m2 t0 (by omega)
        · exfalso
          have := hnow'.1
          omega
/-- the draw, its source hidden -/
def S_draw : Spec := fun args h q _ => ∃ (x : MV) (m : Int), args = [x, .int m] ∧ h.src x 1 ∧ 1 ≤ m ∧ m ≤ 1000000 ∧ ∀ k : Int, 0 ≤ k → k < m → q (.int k) (h.sp 1)
@[simp ↓] theorem S_draw_s {x : MV} {m : Int} {h : MH} {q : QV} {e : QX} : S_draw [x, .int m] h q e = (h.src x 1 ∧ 1 ≤ m ∧ m ≤ 1000000 ∧ ∀ k : Int, 0 ≤ k → k < m → q (.int k) (h.sp 1)) := propext ⟨fun ⟨_, _, e1, z⟩ => by cases e1; exact z, fun z => ⟨_, _, rfl, z⟩⟩
theorem callM_draw {X : Cx} {f : Value} (c : CallM X f S_open) : CallM X f S_draw := by
  intro pins s σ H ρ h args vs us q e Q I sr hh tk va vv ⟨x, m, e1, ⟨⟨⟨kd, d, g⟩, eD, ek, ex⟩, hn⟩, hm, hm2, z⟩ k
  obtain ⟨dok, nd, ng⟩ := hh.dl _ eD
  subst ek ex
  simp only [DealOk] at dok
  obtain ⟨ns, hg, hnn, hl, now, mixed, turn, hd, n0, n1, m1, m2, t0, t1⟩ := dok
  have hdg : d ≠ g := fun z => by rw [z, hg] at hd; cases hd
  have h63 : 63 ≤ sizeLine := by decide
  let h1 : MH := (h.bare.put g (.lst (ns.map MV.int))).put d (dealD g now mixed turn)
  have a1 : h1.at_ d = some (dealD g now mixed turn) := if_pos rfl
  have a2 : h1.at_ g = some (.lst (ns.map MV.int)) := by
    show (if g = d then _ else _) = _
    rw [if_neg (fun z => hdg z.symm)]
    exact if_pos rfl
  have a3 : ∀ a, a ≠ d → a ≠ g → h1.at_ a = h.at_ a := fun a n1 n2 => by
    show (if a = d then _ else (if a = g then _ else _)) = _
    rw [if_neg n1, if_neg n2]
    rfl
  have r1 : HR X.K h1 H := by
    refine ⟨fun a o e => ?_, fun D e => by cases e⟩
    by_cases q1 : a = d
    · subst q1
      rw [a1] at e
      cases e
      exact ⟨_, hd, rfl, by simp [VRs_cons]⟩
    · by_cases q2 : a = g
      · subst q2
        rw [a2] at e
        cases e
        exact ⟨_, hg, VRs.ints ns⟩
      · rw [a3 a q1 q2] at e
        exact hh.ob a o e
  have e2 : args = [.ref d, .int m] := e1
  have hnn2 : (1 : Nat) ≤ h.n := hn
  refine c pins s σ H (noEn σ) h1 args vs us (fun v h2 => ∃ (k : Int) (ns' : List Int) (now' mixed' turn' : Int), v = .int k ∧ 0 ≤ k ∧ k < m ∧ (∃ l, ns = ns' ++ l) ∧ Small now' ∧ 1 ≤ mixed' ∧ mixed' ≤ 2147483647 ∧ 0 ≤ turn' ∧ turn' ≤ turn + 1 ∧ h2 = (h1.put g (.lst (ns'.map MV.int))).put d (dealD g now' mixed' turn')) NoX Q I sr_no r1 takes_no va vv ?_ ?_
  · exact ⟨d, g, ns, now, mixed, turn, m, e2, hdg, a1, a2, fun z hz => hnn z hz, ⟨n0, n1⟩, m1, m2, t0, by omega, hm, hm2, Nat.le_trans hl h63, fun k ns' now' mixed' turn' b1 b2 b3 b4 b5 b6 b7 b8 => ⟨k, ns', now', mixed', turn', rfl, b1, b2, b3, b4, b5, b6, b7, b8, rfl⟩⟩
  · rintro mv v h2 H2 t2 r2 rv ⟨kk, ns', now', mixed', turn', rfl, b1, b2, ⟨l, b3⟩, b4, b5, b6, b7, b8, rfl⟩
    refine k _ _ (h.sp 1) H2 t2 ⟨fun a o e => ?_, fun D e => ?_⟩ rv (z kk b1 b2)
    · have e : h.at_ a = some o := e
      have n1 : a ≠ d := fun z => by rw [z, nd] at e; cases e
      have n2 : a ≠ g := fun z => by rw [z, ng] at e; cases e
      refine r2.ob a o ?_
      rw [MH.put_ne n1, MH.put_ne n2, a3 a n1 n2]
      exact e
    · have e : h.deal = some D := e
      rw [eD] at e
      cases e
      obtain ⟨gs, g1, g2⟩ := r2.ob d _ MH.put_same
      obtain ⟨us', u1, u2⟩ := r2.ob g (.lst (ns'.map MV.int)) (by rw [MH.put_ne (fun z => hdg z.symm), MH.put_same])
      rw [ints_of u2] at u1
      have hgs : gs = [(.inr "great", .ref g), (.inr "now", .int now'), (.inr "mixed", .int mixed'), (.inr "turn", .int turn')] := by
        obtain ⟨p1, p2⟩ := g2
        match gs, p1, p2 with
        | [(k1, v1), (k2, v2), (k3, v3), (k4, v4)], p1, p2 =>
          simp [VRs_cons] at p1 p2
          obtain ⟨rfl, rfl, rfl, rfl⟩ := p1
          obtain ⟨rfl, rfl, rfl, rfl⟩ := p2
          rfl
      rw [hgs] at g1
      refine ⟨⟨ns', u1, fun z hz => hnn z (by rw [b3]; simp [hz]), ?_, now', mixed', turn', g1, b4.1, b4.2, b5, b6, b7, ?_⟩, nd, ng⟩
      · rw [b3] at hl; simp at hl; omega
      · show turn' + ((h.n - 1 : Nat) : Int) ≤ 2 ^ 64
        omega
theorem f__law_draw (t : Txt K mg own) : Fn P w K mg base 1 "_law_draw" S_draw := by
  obtain ⟨f, a, b, c⟩ := f_open (P := P) (w := w) (base := base) t
  exact ⟨f, a, b, fun X o => callM_draw (c X o)⟩
end MM
end
section
namespace MM
open PySem PySem.Spec PyProof.Rows L2
variable {P : Program} {w : World} {K : PySem.W.Frag} {mg : Str → Option Value} {base : Heap} {own : List Addr}
def okV : MV → Bool
  | .non | .bl _ | .int _ | .str _ | .tup _ | .lis _ => true
  | _ => false
/-- a value that may be asked whether it is an event -/
def okE : MV → Bool
  | .tup xs => xs.all okV && decide (xs.length ≤ 2000000)
  | x => okV x
def natB : MV → Bool
  | .int i => decide (0 ≤ i)
  | _ => false
def kindL : List Str := ["age", "close", "drop", "erase", "fall", "open", "put", "sweep", "work"]
def putB : List MV → Bool
  | [_, .int p, .int v] => decide (p < 3) && decide (v ≥ 1)
  | _ => false
/-- whether a value is an event -/
def evB : MV → Bool
  | .tup (.str k :: ns) => decide (k ∈ kindL) && (ns.all natB && (if k = "put" then putB ns else decide (ns.length = if k = "erase" ∨ k = "fall" then 0 else 1)))
  | _ => false
theorem f_is_event (t : Txt K mg own) (F_is_integer : Fn P w K mg base 1 "is_integer" (S_is_integer own)) : Fn P w K mg base 2 "is_event" (pure1 (fun x _ => okE x = true) fun x _ => .bl (evB x)) := by
  have nd : ((["thing", "numbers", "number"] : List Str)).Nodup := by decide +kernel
  refine t.d_is_event.fn (N := (["thing", "numbers", "number"] : List Str)) sc_is_event (fun _ _ _ _ _ _ us hl => match us, hl with | [_], _ => rfl) (fun args h q e ⟨x, e1, _⟩ => by rw [e1]; rfl) fun f cdv A outer s H E on => ⟨_, (ss_cons (ss_if (PW.pt (sw_or (st_not (st_val (se_callB (cm_isi t.isi) t.b_isinstance (by decide +kernel) (by rfl) (sa_cons (sv 0) (sa_cons (se_bltn (n := "tuple") t.b_tuple (by decide +kernel) (by rfl)) sa_nil))))) (sw_or (st_cmp ok_eq (op_eqM (hu64 on)) (se_callB cm_len t.b_len (by decide +kernel) (by rfl) (sa_cons (sv 0) sa_nil)) se_int (by with_unfolding_all rfl)) (sw_or (st_not (st_val (se_callB (cm_isi t.isi) t.b_isinstance (by decide +kernel) (by rfl) (sa_cons (se_ix (sv 0) se_int) (sa_cons (se_bltn (n := "str") t.b_str (by decide +kernel) (by rfl)) sa_nil))))) (sw_or1 (st_cmp ok_notIn (op_notInM (hu_on on)) (se_ix (sv 0) se_int) (se_gc t.g_KINDS) (by with_unfolding_all rfl))))))) (ss_last (ss_ret se_bl)) ss_nil) (ss_cons (sset 1 nd (se_fz (se_slice (sv 0) (so_some se_int) so_none))) (ss_cons (ss_if (st_not (st_val (se_callB (cm_allF rfl) t.b_all (by decide +kernel) (by rfl) (sa_cons (se_fz (se_lc [("number", 2)] rfl nd (si_seq (sv 1)) (by kernel_rfl) (go_name (i := 2) (by decide)) (fun _ _ _ _ _ => pg_name (i := 2) nd rfl (.inl rfl)) (fun _ _ _ _ _ => sts_nil) (fun _ _ _ _ _ => (se_and (se_fn F_is_integer (On.blk on) (sa_cons (sv 2) sa_nil)) (se_one (se_cmp ok_ge op_ge (sv 2) se_int (by with_unfolding_all rfl))))))) sa_nil)))) (ss_last (ss_ret se_bl)) ss_nil) (ss_cons (ss_if (st_cmp ok_eq (op_eqM (hu64 on)) (se_ix (sv 0) se_int) se_str (by with_unfolding_all rfl)) (ss_last (ss_ret (se_and (se_cmp ok_eq (op_eqM (hu64 on)) (se_callB cm_len t.b_len (by decide +kernel) (by rfl) (sa_cons (sv 1) sa_nil)) se_int (by with_unfolding_all rfl)) (se_and (se_cmp ok_lt op_lt (se_ix (sv 1) se_int) (se_gc t.g_MOST_PARTS) (by with_unfolding_all rfl)) (se_one (se_cmp ok_ge op_ge (se_ix (sv 1) se_int) se_int (by with_unfolding_all rfl))))))) ss_nil) (ss_last (ss_ret (se_cmp ok_eq (op_eqM (hu64 on)) (se_callB cm_len t.b_len (by decide +kernel) (by rfl) (sa_cons (sv 1) sa_nil)) (se_if (st_cmp ok_in (op_inM (hu_on on)) (se_ix (sv 0) se_int) (se_gc t.g_OF_NOBODY) (by with_unfolding_all rfl)) se_int se_int) (by with_unfolding_all rfl)))))))), ?_⟩
  rintro args h q e ⟨x, rfl, g, z⟩
  show (_ : WS) [some x, none, none] h _
  cases x with
  | ref p => cases g
  | obj C ns xs => cases g
  | err a d C ns xs => cases g
  | ty n => cases g
  | slc a b c => cases g
  | key ks => cases g
  | tup xs =>
    cases xs with
    | nil => simp [names7, names5, isB]; exact QV.wk_i z
    | cons k ns =>
      have g' := g
      simp only [okE, List.all_cons, Bool.and_eq_true, decide_eq_true_eq, List.length_cons] at g
      cases k with
      | str k =>
        simp [names7, names5, isB]
        rw [if_neg (by omega)]
        have hs : 2000001 < sizeLine := by decide
        split
        · rename_i hk
          have hk : k ∉ kindL := fun m => by
            simp [kindL] at m
            rcases m with rfl | rfl | rfl | rfl | rfl | rfl | rfl | rfl | rfl <;> simp at hk
          have z' : q (.bl false) h := by simpa [evB, hk] using z
          exact QV.wk_i z'
        · rename_i hk
          have hk : k ∈ kindL := Classical.byContradiction fun m => hk (by
            simp [kindL] at m
            simp [eq_comm, m])
          refine lc_map (fun y => .bl (natB y)) (by omega) (fun _ _ _ => rfl) (fun D acc y m n qy qn kk => ?_) ?_
          · dsimp only [wipeM, List.set]
            have oy : okV y = true := List.all_eq_true.mp g.1.2 y m
            cases y with
            | ref p => cases oy
            | obj C ns xs => cases oy
            | err a d C ns xs => cases oy
            | ty n => cases oy
            | slc a b c => cases oy
            | key ks => cases oy
            | int i =>
              simp [isInt]
              exact kk
            | _ =>
              simp [isInt, okInt, typM]
              exact kk
          · simp
            split
            · rename_i hn
              obtain ⟨y, m, hy⟩ := hn
              have ha : ns.all natB = false := by
                rw [Bool.eq_false_iff]
                intro z
                rw [List.all_eq_true.mp z y m] at hy
                cases hy
              have z' : q (.bl false) h := by simpa [evB, ha] using z
              exact QV.wk_i z'
            · rename_i hn
              have ha : ∀ y ∈ ns, natB y = true := fun y m => by
                cases e : natB y with
                | true => rfl
                | false => exact absurd ⟨y, m, e⟩ hn
              have ha2 : ns.all natB = true := List.all_eq_true.mpr ha
              have z' : q (.bl (if k = "put" then putB ns else decide (ns.length = if k = "erase" ∨ k = "fall" then 0 else 1))) h := by simpa [evB, ha2, hk] using z
              split
              · rename_i kp
                rw [if_pos kp] at z'
                split
                · rename_i l3i
                  have l3 : ns.length = 3 := by omega
                  clear l3i
                  obtain ⟨a, b, c, rfl⟩ : ∃ a b c, ns = [a, b, c] := by
                    match ns, l3 with
                    | [a, b, c], _ => exact ⟨a, b, c, rfl⟩
                  have h2 := ha b (by simp)
                  have h3 := ha c (by simp)
                  cases b <;> first | (cases h2; done) | skip
                  cases c <;> first | (cases h3; done) | skip
                  rename_i p v
                  simp
                  have e : putB [a, .int p, .int v] = (decide (p < 3) && decide (v ≥ 1)) := rfl
                  rw [e] at z'
                  by_cases c3 : p < 3
                  · simp [c3] at z' ⊢
                    exact QV.wk_i z'
                  · simp [c3] at z' ⊢
                    exact QV.wk_i z'
                · rename_i l3i
                  have l3 : ns.length ≠ 3 := by omega
                  clear l3i
                  have e : putB ns = false := by
                    unfold putB
                    split
                    · simp at l3
                    · rfl
                  rw [e] at z'
                  exact QV.wk_i z'
              · rename_i kp
                rw [if_neg kp] at z'
                split
                · rename_i kn
                  have kn : k = "erase" ∨ k = "fall" := kn.imp Eq.symm Eq.symm
                  rw [if_pos kn] at z'
                  exact QV.wk_i (by simpa using z')
                · rename_i kn
                  have kn : ¬ (k = "erase" ∨ k = "fall") := fun z => kn (z.imp Eq.symm Eq.symm)
                  rw [if_neg kn] at z'
                  have e : decide ((ns.length : Int) = 1) = decide (ns.length = 1) := by
                    rw [decide_eq_decide]
                    omega
                  rw [e]
                  exact QV.wk_i z'
      | ref p => cases g.1.1
      | obj C ns xs => cases g.1.1
      | err a d C ns xs => cases g.1.1
      | ty n => cases g.1.1
      | slc a b c => cases g.1.1
      | key ks => cases g.1.1
      | _ => simp [names7, names5, isB]; exact QV.wk_i z
  | _ => simp [names7, names5, isB]; exact QV.wk_i z
end MM
end
section
namespace MM
open PySem PySem.Spec PyProof.Rows L2
variable {P : Program} {w : World} {K : PySem.W.Frag} {mg : Str → Option Value} {base : Heap} {own : List Addr}
def S_dealO : Spec := fun args h q _ => ∃ ns : List Int, args = [.lis (ns.map MV.int), .int 0] ∧ ns.length ≤ 63 ∧ (∀ z ∈ ns, z.natAbs.log2 ≤ 2000000) ∧
  ∀ (d g : Addr) (ns' : List Int) (mixed : Int) (h2 : MH), d ≠ g → h.at_ d = none → h.at_ g = none → (∀ z ∈ ns', Small z) → ns'.length ≤ 63 → 1 ≤ mixed → mixed ≤ 2147483647 → h2.at_ d = some (dealD g 0 mixed 0) → h2.at_ g = some (.lst (ns'.map MV.int)) → (∀ a o, h.at_ a = some o → h2.at_ a = some o) → q (.ref d) h2
def absI (i : Int) : Int := if i < 0 then -i else i
theorem absI_small {i : Int} (h : i.natAbs.log2 ≤ 2000000) : Small (absI i) := by
  unfold absI
  split
  · exact ⟨by omega, by rw [Int.natAbs_neg]; exact h⟩
  · exact ⟨by omega, h⟩
theorem cut63 {xs : List MV} (h : xs.length ≤ 63) : cutM xs (some 0) (some 63) = xs := by
  have a : HT.sIx xs.length 0 (some 0) = 0 := by simp [HT.sIx]
  have b : HT.sIx xs.length xs.length (some 63) = xs.length := by
    show min 63 xs.length = xs.length
    omega
  unfold cutM
  rw [a, b]
  simp
theorem f_dealO (t : Txt K mg own) : Fn P w K mg base 1 "_law_deal" S_dealO := by
  have nd : ((["_law_script", "_law_base", "_law_cells", "_law_mixed", "_law_cell", "_law_great"] : List Str)).Nodup := by decide +kernel
  refine t.d__law_deal.fn (N := (["_law_script", "_law_base", "_law_cells", "_law_mixed", "_law_cell", "_law_great"] : List Str)) sc__law_deal (fun _ _ _ _ _ _ us hl => match us, hl with | [_, _], _ => rfl) (fun args h q e ⟨ns, e1, _⟩ => by rw [e1]; rfl) fun f cdv A outer s H E on => ⟨_, (ss_cons (ss_fz (ss_setLc 2 [("_law_cell", 4)] rfl nd (si_seq (se_fz (se_slice (sv 0) (so_some (sv 1)) (so_some se_int)))) (by kernel_rfl) (go_name (i := 4) (by decide)) (fun _ _ _ _ _ => pg_name (i := 4) nd rfl (.inl rfl)) (fun _ _ _ _ _ => sts_nil) (fun _ _ _ _ _ => (se_callB cm_abs t.b_abs (by decide +kernel) (by rfl) (sa_cons (sv 4) sa_nil))) (by rfl))) (ss_cons (sset 3 nd (se_op ok_add2 op_add2 se_int (sv 1))) (ss_cons (ss_for (passes_of rfl) rfl (si_seq (sv 2)) (sg_name (i := 4) nd rfl (.inl rfl)) (ss_last (sset 3 nd (se_op ok_mod op_mod (se_callTy cm_int t.b_int (by decide +kernel) (by rfl) (sa_cons (se_op ok_add2 op_add2 (se_op ok_mul2 op_mul2 (sv 3) se_int) (sv 4)) sa_nil)) se_int)))) (ss_cons (ss_fz (ss_setLc 5 [("_law_cell", 4)] rfl nd (si_seq (sv 2)) (by kernel_rfl) (go_name (i := 4) (by decide)) (fun _ _ _ _ _ => pg_name (i := 4) nd rfl (.inl rfl)) (fun _ _ _ _ _ => (sts_one (st_cmp ok_ge op_ge (sv 4) (se_op ok_pow op_pow se_int se_int) (by with_unfolding_all rfl)))) (fun _ _ _ _ _ => (sv 4)) (by rfl))) (ss_last (ss_ret (se_disp (prs_cons se_str (se_revL (sv 5)) (prs_cons se_str se_int (prs_cons se_str (se_op ok_add2 op_add2 (sv 3) se_int) (prs_cons se_str se_int prs_nil))))))))))), ?_⟩
  rintro args h q e ⟨ns, rfl, hl, hb, z⟩
  have h63 : 63 < sizeLine := by decide
  show (_ : WS) [some (.lis (ns.map MV.int)), some (.int 0), none, none, none, none] h _
  simp
  rw [cut63 (by simpa using hl)]
  refine lc_fm (fun x => match x with | .int i => some (.int (absI i)) | _ => none) (by simp; omega) (fun D acc n => rfl) (fun D acc x m n qy qn k1 k2 => ?_) ?_
  · simp at m
    obtain ⟨i, hi, rfl⟩ := m
    dsimp only [wipeM, List.set]
    simp
    exact k1 _ rfl
  · have e1 : ((ns.map MV.int).filterMap fun x => match x with | .int i => some (MV.int (absI i)) | _ => none) = (ns.map absI).map MV.int := by
      clear hl hb z
      induction ns with
      | nil => rfl
      | cons a l ih => rw [List.map_cons, List.filterMap_cons, ih] <;> rfl
    rw [e1]
    have sm : ∀ z ∈ ns.map absI, Small z := fun z hz => by
      obtain ⟨i, hi, rfl⟩ := List.mem_map.mp hz
      exact absI_small (hb i hi)
    have ln : (ns.map absI).length ≤ 63 := by simpa using hl
    clear e1
    generalize ns.map absI = cs at sm ln
    simp
    refine for_rule (fun r ρ h' => h' = h ∧ ∃ (c : Option MV) (mx : Int), (∀ x ∈ r, ∃ i : Int, x = .int i) ∧ ρ = [some (.lis (ns.map MV.int)), some (.int 0), some (.lis (cs.map MV.int)), some (.int mx), c, none] ∧ 0 ≤ mx ∧ mx ≤ 2147483646) ?_ ?_ ?_ ?_
    · exact ⟨rfl, none, 15485863, fun x m => by simp at m; obtain ⟨i, _, rfl⟩ := m; exact ⟨i, rfl⟩, rfl, by decide, by decide⟩
    · rintro r ρ h' ⟨rfl, _⟩
      simp [seqM]
    · rintro x r ρ h' ⟨rfl, c, mx, hr, rfl, x0, x1⟩ N hN
      obtain ⟨i, rfl⟩ := hr x (by simp)
      simp
      refine ⟨mul_ok (by omega) (by decide), ?_⟩
      have := Int.emod_nonneg (mx * 16807 + i) (show (2147483647 : Int) ≠ 0 by decide)
      have := Int.emod_lt_of_pos (mx * 16807 + i) (show (0 : Int) < 2147483647 by decide)
      exact hN _ _ ⟨rfl, _, _, fun y m => hr y (by simp [m]), rfl, by omega, by omega⟩
    · rintro ρ h' ⟨rfl, c, mx, _, rfl, x0, x1⟩
      simp
      refine lc_fm (fun x => match x with | .int i => if 1000000000000000000 ≤ i then some (.int i) else none | _ => none) (by simp; omega) (fun D acc n => rfl) (fun D acc x m n qy qn k1 k2 => ?_) ?_
      · simp at m
        obtain ⟨i, hi, rfl⟩ := m
        dsimp only [wipeM, List.set]
        simp [kLcB_s]
        refine ⟨⟨by decide, by decide, by decide⟩, ?_⟩
        split
        · rename_i c1
          exact k1 _ (if_pos c1)
        · rename_i c1
          exact k2 (if_neg c1)
      · have e2 : ((cs.map MV.int).filterMap fun x => match x with | .int i => if 1000000000000000000 ≤ i then some (MV.int i) else none | _ => none) = (cs.filter fun i => decide (1000000000000000000 ≤ i)).map MV.int := by
          clear sm ln
          induction cs with
          | nil => rfl
          | cons a l ih =>
            rw [List.map_cons, List.filterMap_cons, ih, List.filter_cons]
            by_cases q : (1000000000000000000 : Int) ≤ a
            · simp [q]
            · simp [q]
        rw [e2]
        simp
        refine wDisp_i fun d nd => ?_
        simp
        intro g ng
        obtain ⟨g1, g0⟩ := MH.put_none.mp ng
        simp
        refine ⟨by simp [g1.symm], [(.inr "great", .ref g), (.inr "now", .int 0), (.inr "mixed", .int (mx + 1)), (.inr "turn", .int 0)], rfl, by simp, ?_⟩
        refine QV.wk_i (z d g (cs.filter fun i => decide (1000000000000000000 ≤ i)).reverse (mx + 1) _ g1.symm nd g0 (fun z hz => sm z (List.mem_filter.mp (List.mem_reverse.mp hz)).1) ?_ (by omega) (by omega) ?_ ?_ ?_)
        · rw [List.length_reverse]
          exact Nat.le_trans (List.length_filter_le _ _) ln
        · rw [MH.put_same]
          rfl
        · rw [MH.put_ne g1, MH.put_same, List.map_reverse]
        · intro a o ea
          have f : ∀ x, h'.at_ x = none → a ≠ x := fun x hx z => by rw [z, hx] at ea; cases ea
          rw [MH.put_ne (f d nd), MH.put_ne (f g g0), MH.put_ne (f d nd)]
          exact ea
/-- the source is made, hidden -/
def S_deal : Spec := fun args h q _ => ∃ ns : List Int, args = [.lis (ns.map MV.int), .int 0] ∧ ns.length ≤ 63 ∧ (∀ z ∈ ns, z.natAbs.log2 ≤ 2000000) ∧ ∀ d g : Addr, h.at_ d = none → h.at_ g = none → q (.ref d) (h.dealt d g)
theorem callM_deal {X : Cx} {f : Value} (c : CallM X f S_dealO) : CallM X f S_deal := by
  intro pins s σ H ρ h args vs us q e Q I sr hh tk va vv ⟨ns, e1, hl, hb, z⟩ k
  refine c pins s σ H (noEn σ) h args vs us (fun v h2 => ∃ (d g : Addr) (ns' : List Int) (mixed : Int), v = .ref d ∧ d ≠ g ∧ h.at_ d = none ∧ h.at_ g = none ∧ (∀ z ∈ ns', Small z) ∧ ns'.length ≤ 63 ∧ 1 ≤ mixed ∧ mixed ≤ 2147483647 ∧ h2.at_ d = some (dealD g 0 mixed 0) ∧ h2.at_ g = some (.lst (ns'.map MV.int)) ∧ ∀ a o, h.at_ a = some o → h2.at_ a = some o) NoX Q I sr_no hh takes_no va vv ?_ ?_
  · exact ⟨ns, e1, hl, hb, fun d g ns' mixed h2 b1 b2 b3 b4 b5 b6 b7 b8 b9 b10 => ⟨d, g, ns', mixed, rfl, b1, b2, b3, b4, b5, b6, b7, b8, b9, b10⟩⟩
  · rintro mv v h2 H2 t2 r2 rv ⟨d, g, ns', mixed, rfl, b1, b2, b3, b4, b5, b6, b7, b8, b9, b10⟩
    refine k _ _ (h.dealt d g) H2 t2 ⟨fun a o e => r2.ob a o (b10 a o e), fun D e => ?_⟩ rv (z d g b2 b3)
    cases e
    obtain ⟨gs, g1, g2⟩ := r2.ob d _ b8
    obtain ⟨us', u1, u2⟩ := r2.ob g _ b9
    rw [ints_of u2] at u1
    have hgs : gs = [(.inr "great", .ref g), (.inr "now", .int 0), (.inr "mixed", .int mixed), (.inr "turn", .int 0)] := by
      obtain ⟨p1, p2⟩ := g2
      match gs, p1, p2 with
      | [(k1, v1), (k2, v2), (k3, v3), (k4, v4)], p1, p2 =>
        simp [VRs_cons] at p1 p2
        obtain ⟨rfl, rfl, rfl, rfl⟩ := p1
        obtain ⟨rfl, rfl, rfl, rfl⟩ := p2
        rfl
    rw [hgs] at g1
    exact ⟨⟨ns', u1, fun z hz => b4 z hz, b5, 0, mixed, 0, g1, by decide, by decide, b6, b7, by decide, (show (0 : Int) + ((2 ^ 64 : Nat) : Int) ≤ 2 ^ 64 by decide)⟩, b2, b3⟩
theorem f__law_deal (t : Txt K mg own) : Fn P w K mg base 1 "_law_deal" S_deal := by
  obtain ⟨f, a, b, c⟩ := f_dealO (P := P) (w := w) (base := base) t
  exact ⟨f, a, b, fun X o => callM_deal (c X o)⟩
end MM
end
section
namespace MM
open PySem PySem.Spec PyProof.Rows L2
variable {P : Program} {w : World} {K : PySem.W.Frag} {mg : Str → Option Value} {base : Heap} {own : List Addr}
theorem f__law_pick (t : Txt K mg own) (F__law_draw : Fn P w K mg base 1 "_law_draw" S_draw) : Fn P w K mg base 2 "_law_pick" S_pick := by
  have nd : ((["_law_deal_here", "_law_some"] : List Str)).Nodup := by decide +kernel
  refine t.d__law_pick.fn (N := (["_law_deal_here", "_law_some"] : List Str)) sc__law_pick (fun _ _ _ _ _ _ us hl => match us, hl with | [_, _], _ => rfl) (fun args h q e z => by unfold S_pick at z; split at z <;> first | rfl | exact z.elim) fun f cdv A outer s H E on => ⟨_, (ss_last (ss_ret (se_ix (sv 1) (se_fn F__law_draw on (sa_cons (sv 0) (sa_cons (se_callB cm_len t.b_len (by decide +kernel) (by rfl) (sa_cons (sv 1) sa_nil)) sa_nil)))))), ?_⟩
  rintro args h q e z
  unfold S_pick at z
  split at z
  · rename_i x s'
    obtain ⟨xs, el, sr, l1, l2, z⟩ := seqK_get z
    show (_ : WS) [some x, some s'] h _
    have fin : ∀ k : Int, 0 ≤ k → k < xs.length → atIK xs k (kIx2 (h.sp 1) (QV.wk q)) := fun k k0 k1 => atIK_nat k0 k1 fun y ey => QV.wk_i (z y (List.mem_of_getElem? ey))
    rcases seqM_cases el with rfl | rfl | ⟨l, rfl, e2⟩
    · simp
      refine ⟨sr, by omega, by omega, fun k k0 k1 => fin k k0 k1⟩
    · simp
      refine ⟨sr, by omega, by omega, fun k k0 k1 => fin k k0 k1⟩
    · simp
      rw [atK_of e2]
      simp
      refine ⟨sr, by omega, by omega, fun k k0 k1 => ?_⟩
      rw [atK_of e2]
      simp
      exact fin k k0 k1
  · exact z.elim
end MM
end
section
namespace MM
open PySem PySem.Spec PyProof.Rows L2
variable {P : Program} {w : World} {K : PySem.W.Frag} {mg : Str → Option Value} {base : Heap} {own : List Addr}
/-- a weaving as it stands; by what it holds -/
def Wv (C : Addr) (xs : List MV) : MO := .ins C [("events", .tup xs)]
abbrev W (C : Addr) (xs : List MV) : MV := .obj C ["events"] [.tup xs]
def badE (xs : List MV) : Option Nat := xs.findIdx? fun y => !evB y
/-- an error that tells a number -/
abbrev atX (E : Addr) (i : Int) : MX := ⟨.ref E, some [("at", .int i)]⟩
theorem bad_at {xs : List MV} {k : Nat} {y : MV} (h : ∀ j y, j < k → xs[j]? = some y → evB y = true) (e : xs[k]? = some y) (b : evB y = false) : badE xs = some k := by
  obtain ⟨l, e2⟩ := List.getElem?_eq_some_iff.mp e
  refine List.findIdx?_eq_some_iff_getElem.mpr ⟨l, by rw [e2, b]; rfl, fun j hj => ?_⟩
  have := h j _ hj (List.getElem?_eq_getElem (by omega))
  rw [this]
  decide
theorem bad_no {xs : List MV} (h : ∀ j y, j < xs.length → xs[j]? = some y → evB y = true) : badE xs = none := by
  refine List.findIdx?_eq_none_iff.mpr fun y m => ?_
  obtain ⟨j, l, e⟩ := List.getElem_of_mem m
  rw [h j y l (by rw [← e]; exact List.getElem?_eq_getElem l)]
  rfl
theorem enum_drop {xs : List MV} {k : Nat} {x : MV} {r : List MV} (e : x :: r = (enumM xs).drop k) : ∃ y, xs[k]? = some y ∧ x = .tup [.int k, y] ∧ r = (enumM xs).drop (k + 1) := by
  have l : k < (enumM xs).length := by
    rcases Nat.lt_or_ge k (enumM xs).length with z | z
    · exact z
    · rw [List.drop_eq_nil_of_le z] at e; cases e
  rw [List.drop_eq_getElem_cons l] at e
  obtain ⟨e1, e2⟩ := List.cons.inj e
  have l2 : k < xs.length := by simpa [enumM] using l
  refine ⟨xs[k], List.getElem?_eq_getElem l2, ?_, e2⟩
  rw [e1]
  simp [enumM]
theorem enum_end {xs : List MV} {k : Nat} (e : [] = (enumM xs).drop k) (l : k ≤ xs.length) : k = xs.length := by
  have := congrArg List.length e
  simp [enumM] at this
  omega
def kWi (C E p : Addr) (h : MH) (q : QV) (e : QX) : Option (List MV) → Prop := fun o => match o with
  | none => e (atX E 0) h
  | some xs => (∀ y ∈ xs, okE y = true) ∧ xs.length ≤ 10000 ∧ match badE xs with
    | some i => e (atX E i) h
    | none => q .non (h.put p (Wv C xs))
def S_Winit (own : List Addr) (C E : Addr) : Spec := fun args h q e => ∃ (p : Addr) (x : MV), args = [.ref p, x] ∧ x ≠ .ref p ∧ h.at_ p = some (.ins C []) ∧ okInt own x h ∧ kWi C E p h q e (seqM h x)
/-- Weaving(x): the weaving, or the number of what is none -/
def S_Weaving (own : List Addr) (C E : Addr) : Spec := fun args h q e => match args with
  | [x] => okInt own x h ∧ (match seqM h x with
    | none => e (atX E 0) h
    | some xs => (∀ y ∈ xs, okE y = true) ∧ xs.length ≤ 10000 ∧ match badE xs with
      | some i => e (atX E i) h
      | none => q (W C xs) h)
  | _ => False
def S_Weaving0 (C : Addr) : Spec := fun args h q _ => args = [] ∧ q (W C []) h
@[simp ↓] theorem S_Weaving0_s {C : Addr} {h : MH} {q : QV} {e : QX} : S_Weaving0 C [] h q e = q (W C []) h := propext ⟨fun z => z.2, fun z => ⟨rfl, z⟩⟩
theorem mx_Winit (t : Txt K mg own) (F_is_sequence : Fn P w K mg base 1 "is_sequence" (pure1 (fun x h => ∃ ty, typM h x = some ty ∧ ∀ C, ty = .ref C → C ∈ own) fun x h => .bl (seqB h x))) (F_is_event : Fn P w K mg base 2 "is_event" (pure1 (fun x _ => okE x = true) fun x _ => .bl (evB x)))
    (R_InvalidEvent : ErrM P w K mg base "InvalidEvent" "at" (er K "InvalidEvent")) : BodyM P w K mg base 3 "Weaving.__init__" s_Weaving___init__ (["self", "events", "at", "event"] : List Str) (S_Winit own (cAt own 0) (er K "InvalidEvent")) := by
  have nd : ((["self", "events", "at", "event"] : List Str)).Nodup := by decide +kernel
  intro f cdv A outer s H E on
  refine ⟨_, (ss_cons (ss_if (st_not (st_val (se_fn F_is_sequence on (sa_cons (sv 1) sa_nil)))) (ss_last (ss_raise R_InvalidEvent on se_int)) ss_nil) (ss_cons (ss_for (passes_of rfl) rfl (si_enum2 t.b_enumerate (by rfl) (sa_cons (sv 1) sa_nil)) (sg_tup rfl (sgs_cons (i := 2) nd (sgs_cons (i := 3) nd sgs_nil))) (ss_last (ss_if (st_not (st_val (se_fn F_is_event on (sa_cons (sv 3) sa_nil)))) (ss_last (ss_raise R_InvalidEvent on (sv 2))) ss_nil))) (ss_last (ss_fld t.c_Weaving t.n_Weaving_events (sv 0) (se_callTy cm_tuple t.b_tuple (by decide +kernel) (by rfl) (sa_cons (sv 1) sa_nil)))))), ?_⟩
  rintro args h q e ⟨p, x, rfl, hpl, ep, hty, z⟩
  have hs : 10000 < sizeLine := by decide
  show (_ : WS) [some (.ref p), some x, none, none] h _
  simp
  refine ⟨hty, ?_⟩
  unfold seqB
  cases el : seqM h x with
  | none =>
    rw [el] at z
    simp
    exact QX.wk_i z
  | some xs =>
  rw [el] at z
  obtain ⟨hx, hlen, z⟩ := z
  simp
  rcases seqM_cases el with rfl | rfl | ⟨l, rfl, e2⟩
  · simp
    refine for_rule (fun r ρ h' => h' = h ∧ ∃ k a b, r = (enumM xs).drop k ∧ k ≤ xs.length ∧ (∀ j y, j < k → xs[j]? = some y → evB y = true) ∧ ρ = [some (.ref p), some (.tup xs), a, b]) ⟨rfl, 0, none, none, by simp, by simp, by simp, rfl⟩ ?_ ?_ ?_
    · exact fun _ _ _ _ => trivial
    · rintro x r ρ h' ⟨rfl, k, a, b, er, lk, hk, rfl⟩ N hN
      obtain ⟨y, ey, rfl, er2⟩ := enum_drop er
      have oy := hx y (List.mem_of_getElem? ey)
      simp [oy]
      cases c : evB y with
      | true =>
        simp
        refine hN _ _ ⟨rfl, k + 1, _, _, er2, ?_, ?_, rfl⟩
        · have := (List.getElem?_eq_some_iff.mp ey).1
          omega
        · intro j y' hj e'
          rcases Nat.lt_succ_iff_lt_or_eq.mp hj with hj | rfl
          · exact hk j y' hj e'
          · rw [ey] at e'
            cases e'
            exact c
      | false =>
        simp
        rw [bad_at hk ey c] at z
        exact QX.wk_i z
    · rintro ρ h' ⟨rfl, k, a, b, er, lk, hk, rfl⟩
      have l : k = xs.length := enum_end er lk
      rw [bad_no (l ▸ hk)] at z
      simp
      rw [atK_of ep]
      simp [putM, sealedN, sealedL]
      exact QV.wk_i z
  · simp
    refine for_rule (fun r ρ h' => h' = h ∧ ∃ k a b, r = (enumM xs).drop k ∧ k ≤ xs.length ∧ (∀ j y, j < k → xs[j]? = some y → evB y = true) ∧ ρ = [some (.ref p), some (.lis xs), a, b]) ⟨rfl, 0, none, none, by simp, by simp, by simp, rfl⟩ ?_ ?_ ?_
    · rintro r ρ h' ⟨rfl, _⟩
      exact el
    · rintro x r ρ h' ⟨rfl, k, a, b, er, lk, hk, rfl⟩ N hN
      obtain ⟨y, ey, rfl, er2⟩ := enum_drop er
      have oy := hx y (List.mem_of_getElem? ey)
      simp [oy]
      cases c : evB y with
      | true =>
        simp
        refine hN _ _ ⟨rfl, k + 1, _, _, er2, ?_, ?_, rfl⟩
        · have := (List.getElem?_eq_some_iff.mp ey).1
          omega
        · intro j y' hj e'
          rcases Nat.lt_succ_iff_lt_or_eq.mp hj with hj | rfl
          · exact hk j y' hj e'
          · rw [ey] at e'
            cases e'
            exact c
      | false =>
        simp
        rw [bad_at hk ey c] at z
        exact QX.wk_i z
    · rintro ρ h' ⟨rfl, k, a, b, er, lk, hk, rfl⟩
      have l : k = xs.length := enum_end er lk
      rw [bad_no (l ▸ hk)] at z
      simp
      rw [atK_of ep]
      simp [putM, sealedN, sealedL]
      exact QV.wk_i z
  · simp
    rw [atK_of e2]
    show kFor _ _ _ _ _ h
    refine for_rule (fun r ρ h' => h' = h ∧ ∃ k a b, r = (enumM xs).drop k ∧ k ≤ xs.length ∧ (∀ j y, j < k → xs[j]? = some y → evB y = true) ∧ ρ = [some (.ref p), some (.ref l), a, b]) ⟨rfl, 0, none, none, by simp, by simp, by simp, rfl⟩ ?_ ?_ ?_
    · rintro r ρ h' ⟨rfl, _⟩
      exact el
    · rintro x r ρ h' ⟨rfl, k, a, b, er, lk, hk, rfl⟩ N hN
      obtain ⟨y, ey, rfl, er2⟩ := enum_drop er
      have oy := hx y (List.mem_of_getElem? ey)
      simp [oy]
      cases c : evB y with
      | true =>
        simp
        refine hN _ _ ⟨rfl, k + 1, _, _, er2, ?_, ?_, rfl⟩
        · have := (List.getElem?_eq_some_iff.mp ey).1
          omega
        · intro j y' hj e'
          rcases Nat.lt_succ_iff_lt_or_eq.mp hj with hj | rfl
          · exact hk j y' hj e'
          · rw [ey] at e'
            cases e'
            exact c
      | false =>
        simp
        rw [bad_at hk ey c] at z
        exact QX.wk_i z
    · rintro ρ h' ⟨rfl, k, a, b, er, lk, hk, rfl⟩
      have l : k = xs.length := enum_end er lk
      rw [bad_no (l ▸ hk)] at z
      simp
      rw [atK_of e2]
      simp
      rw [atK_of ep]
      simp [putM, sealedN, sealedL]
      exact QV.wk_i z
theorem sealed_W : sealedN ["events"] = true := by decide +kernel
/-- Weaving(..), Weaving() -/
theorem c_Weaving1 (t : Txt K mg own) (B : BodyM P w K mg base 3 "Weaving.__init__" s_Weaving___init__ (["self", "events", "at", "event"] : List Str) (S_Winit own (cAt own 0) (er K "InvalidEvent"))) : Cl P w K mg base 5 "Weaving" (cAt own 0) (S_Weaving own (cAt own 0) (er K "InvalidEvent")) := by
  obtain ⟨pd, hpd, D⟩ := t.d_Weaving___init__
  refine (D.cl (k := 3) (N := (["self", "events", "at", "event"] : List Str)) (ps := ["self", "events"]) (n := 2) (j := 1) (dms := []) (Φ := S_Winit own (cAt own 0) (er K "InvalidEvent")) t.mk_Weaving t.G_Weaving sc_Weaving___init__ ?_ (by simp) rfl (fun H => by simp) (fun args h q e ⟨p, l, e1, _⟩ => by rw [e1]; rfl) B).ob.imp ?_
  · intro T kV doc pm an cdv ct us its h1 h2
    match us, h1, its, h2 with
    | [a, b], _, [c], _ => exact ⟨_, rfl, rfl⟩
  · intro args h q e z
    unfold S_Weaving at z
    split at z
    · rename_i x
      obtain ⟨okx, z⟩ := z
      intro p np
      have hne : x ≠ .ref p := fun e => by
        subst e
        obtain ⟨ty, et, _⟩ := okx
        simp only [typM] at et
        rw [np] at et
        cases et
      have ey : ∀ l : Addr, x = .ref l → (h.put p (.ins (cAt own 0) [])).at_ l = h.at_ l := fun l e => MH.put_ne (fun q => hne (by rw [e, q]))
      have e1 : seqM (h.put p (.ins (cAt own 0) [])) x = seqM h x := by
        cases x with
        | ref l => simp only [seqM, ey l rfl]
        | _ => rfl
      have e2 : okInt own x (h.put p (.ins (cAt own 0) [])) := by
        obtain ⟨ty, et, ho⟩ := okx
        refine ⟨ty, ?_, ho⟩
        cases x with
        | ref l => simp only [typM, ey l rfl] at et ⊢; exact et
        | _ => exact et
      refine ⟨p, x, rfl, hne, MH.put_same, e2, ?_⟩
      rw [e1]
      cases el : seqM h x with
      | none =>
        rw [el] at z
        exact ⟨h, MH.le_put np, z⟩
      | some xs =>
        rw [el] at z
        obtain ⟨hx, hlen, z⟩ := z
        refine ⟨hx, hlen, ?_⟩
        cases eb : badE xs with
        | some i =>
          simp only [eb] at z ⊢
          exact ⟨h, MH.le_put np, z⟩
        | none =>
          simp only [eb] at z ⊢
          refine ⟨?_, ?_⟩
          · first | rfl | trivial
          rw [MH.put_put]
          show kOb q (.ref p) (h.put p (Wv (cAt own 0) xs))
          simp [Wv, atK_put, MH.del_put np, sealed_W]
          exact z
    · exact z.elim
theorem c_Weaving0 (t : Txt K mg own) (B : BodyM P w K mg base 3 "Weaving.__init__" s_Weaving___init__ (["self", "events", "at", "event"] : List Str) (S_Winit own (cAt own 0) (er K "InvalidEvent"))) : Cl P w K mg base 5 "Weaving" (cAt own 0) (S_Weaving0 (cAt own 0)) := by
  obtain ⟨pd, hpd, D⟩ := t.d_Weaving___init__
  refine (D.cl (k := 3) (N := (["self", "events", "at", "event"] : List Str)) (ps := ["self", "events"]) (n := 1) (j := 0) (dms := [.tup []]) (Φ := S_Winit own (cAt own 0) (er K "InvalidEvent")) t.mk_Weaving t.G_Weaving sc_Weaving___init__ ?_ (by simp) rfl (fun H => VRs_cons.mpr ⟨_, [], rfl, VR_tup.mpr ⟨pd, [], rfl, hpd H, by simp⟩, by simp⟩) (fun args h q e ⟨p, l, e1, _⟩ => by rw [e1]; rfl) B).ob.imp ?_
  · intro T kV doc pm an cdv ct us its h1 h2
    match us, h1, its, h2 with
    | [a], _, [c], _ => exact ⟨_, rfl, rfl⟩
  · rintro args h q e ⟨rfl, z⟩
    intro p np
    refine ⟨p, .tup [], rfl, (fun e => by cases e), MH.put_same, ⟨_, rfl, fun C z => by cases z⟩, ?_⟩
    refine ⟨(fun x m => by cases m), by simp, ?_⟩
    refine ⟨?_, ?_⟩
    · first | rfl | trivial
    rw [MH.put_put]
    show kOb q (.ref p) (h.put p (Wv (cAt own 0) []))
    simp [Wv, atK_put, MH.del_put np, sealed_W]
    exact z

theorem ev_okE {x : MV} (g : GoodEv x) : okE x = true ∧ evB x = true := by
  rcases g with ⟨k, hk, rfl⟩ | ⟨k, u, hk, hu, rfl⟩ | ⟨u, p, v, hu, hp, hp3, hv, hv2, rfl⟩
  · simp only [List.mem_cons, List.mem_nil_iff, or_false] at hk
    rcases hk with rfl | rfl <;> exact ⟨rfl, by decide +kernel⟩
  · simp only [List.mem_cons, List.mem_nil_iff, or_false] at hk
    rcases hk with rfl | rfl | rfl | rfl | rfl | rfl <;> exact ⟨rfl, by simp [evB, kindL, natB, hu.1]⟩
  · exact ⟨rfl, by simp [evB, kindL, natB, hu.1, hp, putB, hp3, hv]; omega⟩
theorem good_badE {xs : List MV} (g : ∀ x ∈ xs, GoodEv x) : badE xs = none := List.findIdx?_eq_none_iff.mpr fun x m => by rw [(ev_okE (g x m)).2]; rfl
section
variable {C E : Addr} {xs : List MV} {h : MH} {q : QV} {e : QX}
theorem Wv_of {x : MV} (e1 : seqM h x = some xs) (ok : okInt own x h) (g : ∀ x ∈ xs, GoodEv x) (l : xs.length ≤ 10000) : S_Weaving own C E [x] h q e = q (W C xs) h := by
  show (_ ∧ _) = _
  rw [e1]
  dsimp only
  rw [good_badE g]
  exact propext ⟨fun z => z.2.2.2, fun z => ⟨ok, fun y m => (ev_okE (g y m)).1, l, z⟩⟩
theorem Wv_tup (g : ∀ x ∈ xs, GoodEv x) (l : xs.length ≤ 10000) : S_Weaving own C E [.tup xs] h q e = q (W C xs) h := Wv_of rfl ⟨_, rfl, fun C z => by cases z⟩ g l
theorem Wv_lis (g : ∀ x ∈ xs, GoodEv x) (l : xs.length ≤ 10000) : S_Weaving own C E [.lis xs] h q e = q (W C xs) h := Wv_of rfl ⟨_, rfl, fun C z => by cases z⟩ g l
theorem Wv_ref {p : Addr} (g : ∀ x ∈ xs, GoodEv x) (l : xs.length ≤ 10000) : S_Weaving own C E [.ref p] (h.put p (.lst xs)) q e = q (W C xs) (h.put p (.lst xs)) :=
  Wv_of (by simp only [seqM, MH.put_same]) ⟨.type "list", by simp only [typM, MH.put_same], fun C z => by cases z⟩ g l
end

def kWv (C : Addr) (h : MH) (q : QV) : List MV → Prop := fun xs => (∀ x ∈ xs, GoodEv x) ∧ xs.length ≤ 10000 ∧ q (W C xs) h
@[simp ↓] theorem kWv_s {C : Addr} {h : MH} {q : QV} {xs : List MV} : kWv C h q xs = ((∀ x ∈ xs, GoodEv x) ∧ xs.length ≤ 10000 ∧ q (W C xs) h) := rfl
/-- Weaving(list of good events) -/
def S_WeavingS (C : Addr) : Spec := fun args h q _ => match args with
  | [x] => seqK h x (kWv C h q)
  | _ => False
@[simp ↓] theorem S_WeavingS_s {C : Addr} {x : MV} {h : MH} {q : QV} {e : QX} : S_WeavingS C [x] h q e = seqK h x (kWv C h q) := rfl
theorem cs_Weaving1 (C1 : Cl P w K mg base 5 "Weaving" (cAt own 0) (S_Weaving own (cAt own 0) (er K "InvalidEvent"))) : Cl P w K mg base 5 "Weaving" (cAt own 0) (S_WeavingS (cAt own 0)) := C1.imp fun a h q e z => by
  unfold S_WeavingS at z
  split at z
  · rename_i x
    obtain ⟨xs, el, hx, hlen, z⟩ := seqK_get z
    have ok : okInt own x h := by
      rcases seqM_cases el with rfl | rfl | ⟨l, rfl, e2⟩
      · exact ⟨_, rfl, fun C z => by cases z⟩
      · exact ⟨_, rfl, fun C z => by cases z⟩
      · exact ⟨.type "list", by simp only [typM, e2], fun C z => by cases z⟩
    rw [Wv_of el ok hx hlen]
    exact z
  · exact z.elim
end MM
end
section
namespace MM
open PySem PySem.Spec PyProof.Rows L2
variable {P : Program} {w : World} {K : PySem.W.Frag} {mg : Str → Option Value} {base : Heap} {own : List Addr}
/-- what a text's words make -/
def evOfW (ws : List Str) : MV := match ws with
  | [] => .non
  | w :: r => .tup (.str w :: r.map numM)
def evT (z : Str) : MV := let x := evOfW (Txt.split z " "); if evB x then x else .non
theorem cut1 {x : MV} {xs : List MV} : cutM (x :: xs) (some 1) none = xs := by
  have a : HT.sIx (x :: xs).length (x :: xs).length none = (x :: xs).length := rfl
  have b : HT.sIx (x :: xs).length 0 (some 1) = 1 := by
    simp [HT.sIx]
  unfold cutM
  rw [a, b]
  simp
def numY : MV → MV
  | .str z => numM z
  | _ => .non
theorem f_event_in (t : Txt K mg own) (F_number_in : Fn P w K mg base 1 "number_in" (fun args h q _ => ∃ z : Str, args = [.str z] ∧ z.length ≤ 1000000 ∧ q (numM z) h)) (F_is_event : Fn P w K mg base 2 "is_event" (pure1 (fun x _ => okE x = true) fun x _ => .bl (evB x))) : Fn P w K mg base 3 "event_in" (fun args h q _ => ∃ z : Str, args = [.str z] ∧ z.length ≤ 1000000 ∧ q (evT z) h) := by
  have nd : ((["text", "words", "event", "word"] : List Str)).Nodup := by decide +kernel
  refine t.d_event_in.fn (N := (["text", "words", "event", "word"] : List Str)) sc_event_in (fun _ _ _ _ _ _ us hl => match us, hl with | [_], _ => rfl) (fun args h q e ⟨z, e1, _⟩ => by rw [e1]; rfl) fun f cdv A outer s H E on => ⟨_, (ss_cons (sset 1 nd (se_fz (se_bm ok_split PySem.F.plainAttrs_str PySem.F.slot_str_split PySem.F.type_str_split mt_split (sv 0) (sa_cons se_str sa_nil)))) (ss_cons (sset 2 nd (se_tup (sa_cons (se_ix (sv 1) se_int) (sa_star (se_fz (se_lc [("word", 3)] rfl nd (si_seq (se_fz (se_slice (sv 1) (so_some se_int) so_none))) (by kernel_rfl) (go_name (i := 3) (by decide)) (fun _ _ _ _ _ => pg_name (i := 3) nd rfl (.inl rfl)) (fun _ _ _ _ _ => sts_nil) (fun _ _ _ _ _ => (se_fn F_number_in (On.blk on) (sa_cons (sv 3) sa_nil))))) sa_nil)))) (ss_last (ss_ret (se_if (st_val (se_fn F_is_event on (sa_cons (sv 2) sa_nil))) (sv 2) se_non))))), ?_⟩
  rintro args h q e ⟨z, rfl, lz, k⟩
  have hs : 1000002 < sizeLine := by decide
  show (_ : WS) [some (.str z), none, none, none] h _
  have e1 : (Str.ofString " ").length = 1 := by decide +kernel
  obtain ⟨w', r, ew⟩ : ∃ w' r, Txt.split z (Str.ofString " ") = w' :: r := List.exists_cons_of_ne_nil fun e => by
    have := PyProof.Rows.split_pos z (Str.ofString " ")
    rw [e] at this
    simp at this
  have lr : (w' :: r).length ≤ z.length + 2 := by
    rw [← ew]
    exact PyProof.Rows.split_le z _
  have ls : ∀ y ∈ w' :: r, y.length ≤ z.length := fun y m => PyProof.Rows.part_short (by rw [ew]; exact m)
  have k : q (if evB (.tup (.str w' :: r.map numM)) then .tup (.str w' :: r.map numM) else .non) h := by
    unfold evT evOfW at k
    rw [ew] at k
    exact k
  simp only [List.length_cons] at lr
  simp
  rw [ew, e1]
  refine ⟨by decide, by omega, ?_⟩
  refine atIK_nat (by decide) (by simp) fun y ey => ?_
  obtain rfl : y = .str w' := by simpa using ey.symm
  simp [cut1]
  have lr2 : r.length ≤ 1000002 := by omega
  refine lc_map numY (by simp; omega) (fun _ _ _ => rfl) (fun D acc y m n qy qn kk => ?_) ?_
  · dsimp only [wipeM, List.set]
    obtain ⟨c, hc, rfl⟩ := List.mem_map.mp m
    simp
    exact ⟨Nat.le_trans (ls c (by simp [hc])) lz, kk⟩
  · have em : (r.map MV.str).map numY = r.map numM := by
      rw [List.map_map]
      rfl
    rw [em]
    have ok : okE (.tup (.str w' :: r.map numM)) = true := by
      have h1 : (r.map numM).all okV = true := List.all_eq_true.mpr fun y m => by
        obtain ⟨c, _, rfl⟩ := List.mem_map.mp m
        unfold numM
        split <;> rfl
      simp only [okE, List.all_cons, okV, h1, Bool.true_and, List.length_cons, List.length_map]
      apply decide_eq_true
      omega
    simp [eq_true ok]
    refine ⟨by omega, ?_⟩
    split
    · rename_i e2
      rw [if_pos e2] at k
      exact QV.wk_i k
    · rename_i e2
      rw [if_neg e2] at k
      exact QV.wk_i k
end MM
end
section
namespace MM
open PySem PySem.Spec PyProof.Rows L2
variable {P : Program} {w : World} {K : PySem.W.Frag} {mg : Str → Option Value} {base : Heap} {own : List Addr}
theorem f__law_event (t : Txt K mg own) (F__law_draw : Fn P w K mg base 1 "_law_draw" S_draw) (F__law_pick : Fn P w K mg base 2 "_law_pick" S_pick) : Fn P w K mg base 3 "_law_event" S_event := by
  have nd : ((["_law_deal_here", "_law_uploads", "_law_parts", "_law_some", "_law_kind", "_law_writing"] : List Str)).Nodup := by decide +kernel
  refine t.d__law_event.fn (N := (["_law_deal_here", "_law_uploads", "_law_parts", "_law_some", "_law_kind", "_law_writing"] : List Str)) sc__law_event (fun _ _ _ _ _ _ us hl => match us, hl with | [_, _, _], _ => rfl) (fun args h q e z => by unfold S_event at z; split at z <;> first | rfl | exact z.elim) fun f cdv A outer s H E on => ⟨_, (ss_cons (sset 3 nd (se_fz (se_lst (sa_cons se_str (sa_cons se_str (sa_cons se_str (sa_cons se_str (sa_cons se_str (sa_cons se_str (sa_cons se_str (sa_cons se_str (sa_cons se_str (sa_cons se_str (sa_cons se_str (sa_cons se_str sa_nil))))))))))))))) (ss_cons (sset 4 nd (se_fn F__law_pick on (sa_cons (sv 0) (sa_cons (sv 3) sa_nil)))) (ss_cons (ss_if (st_cmp ok_in (op_inM (hu_on on)) (sv 4) (se_tup (sa_cons se_str (sa_cons se_str sa_nil))) (by with_unfolding_all rfl)) (ss_last (ss_ret (se_tup (sa_cons (sv 4) sa_nil)))) ss_nil) (ss_cons (ss_if (st_cmp ok_eq (op_eqM (hu64 on)) (sv 4) se_str (by with_unfolding_all rfl)) (ss_cons (sset 5 nd (se_if (st_cmp ok_gt op_gt (se_fn F__law_draw on (sa_cons (sv 0) (sa_cons se_int sa_nil))) se_int (by with_unfolding_all rfl)) (se_op ok_add2 op_add2 se_int (se_fn F__law_draw on (sa_cons (sv 0) (sa_cons se_int sa_nil)))) (se_op ok_sub op_sub (se_op ok_pow op_pow se_int se_int) (se_fn F__law_draw on (sa_cons (sv 0) (sa_cons se_int sa_nil)))))) (ss_last (ss_ret (se_tup (sa_cons (sv 4) (sa_cons (se_fn F__law_pick on (sa_cons (sv 0) (sa_cons (sv 1) sa_nil))) (sa_cons (se_fn F__law_draw on (sa_cons (sv 0) (sa_cons (sv 2) sa_nil))) (sa_cons (sv 5) sa_nil)))))))) ss_nil) (ss_last (ss_ret (se_tup (sa_cons (sv 4) (sa_cons (se_fn F__law_pick on (sa_cons (sv 0) (sa_cons (sv 1) sa_nil))) sa_nil))))))))), ?_⟩
  rintro args h q e z
  unfold S_event at z
  split at z
  · rename_i x us parts
    obtain ⟨l1, l2, hu, sr, hp1, hp3, z⟩ := z
    have e12 : 12 < sizeLine := by decide
    show (_ : WS) [some x, some (.lis us), some (.int parts), none, none, none] h _
    have e2 : 2 ≤ sizeLine := by decide
    have e1 : 1 ≤ sizeLine := by decide
    have e4 : 4 ≤ sizeLine := by decide
    have one : ∀ k ∈ (["open", "close", "drop", "sweep", "work", "age"] : List Str), (h.sp 1).src x 1 ∧ 1 ≤ us.length ∧ us.length ≤ 1000 ∧ ∀ y ∈ us, QV.wk q (.tup [.str k, y]) (h.sp 2) := fun k hk => ⟨sr.sp (by decide), l1, by omega, fun y hy => by
      obtain ⟨i, i0, i1, rfl⟩ := hu y hy
      exact ⟨_, MH.sp_le h (by decide), z _ (.inr (.inl ⟨k, i, hk, ⟨i0, by omega⟩, rfl⟩)) (fun u e => by cases e; exact hy)⟩⟩
    have two : ∀ k ∈ (["erase", "fall"] : List Str) , QV.wk q (.tup [.str k]) (h.sp 1) := fun k hk =>
      ⟨_, MH.sp_le h (by decide), z _ (.inl ⟨k, hk, rfl⟩) (fun u e => by cases e)⟩
    have put : ∀ y ∈ us, ∀ k w : Int, 0 ≤ k → k < parts → 1 ≤ w → w ≤ 1000000000 → QV.wk q (.tup [.str "put", y, .int k, .int w]) (h.sp 5) := fun y hy k w k0 k1 w0 w1 => by
      obtain ⟨i, i0, i1, rfl⟩ := hu y hy
      exact ⟨_, MH.sp_le h (by decide), z _ (.inr (.inr ⟨i, k, w, ⟨i0, by omega⟩, k0, by omega, w0, w1, rfl⟩)) (fun u e => by cases e; exact hy)⟩
    simp [e1, e2, e4]
    have e2' := e2
    refine ⟨by omega, sr.less (by decide), one _ (by simp), ⟨sr.sp (by decide), fun k k0 k4 => ?_⟩, one _ (by simp), one _ (by simp), one _ (by simp), one _ (by simp), one _ (by simp), two _ (by simp), two _ (by simp)⟩
    split
    · exact ⟨sr.sp (by decide), fun k2 a0 a1 => ⟨sr.sp (by decide), l1, by omega, fun y hy => ⟨sr.sp (by decide), hp1, by omega, fun k3 b0 b1 => put y hy k3 _ b0 b1 (by omega) (by omega)⟩⟩⟩
    · exact ⟨⟨by decide, by decide, by decide⟩, sr.sp (by decide), fun k2 a0 a1 => ⟨sr.sp (by decide), l1, by omega, fun y hy => ⟨sr.sp (by decide), hp1, by omega, fun k3 b0 b1 => put y hy k3 _ b0 b1 (by omega) (by omega)⟩⟩⟩
  · exact z.elim
end MM
end
section
namespace MM
open PySem PySem.Spec PyProof.Rows L2
variable {P : Program} {w : World} {K : PySem.W.Frag} {mg : Str → Option Value} {base : Heap} {own : List Addr}
theorem f__law_numbers (t : Txt K mg own) (F__law_draw : Fn P w K mg base 1 "_law_draw" S_draw) (F__law_pick : Fn P w K mg base 2 "_law_pick" S_pick) : Fn P w K mg base 3 "_law_numbers" S_numbers := by
  have nd : ((["_law_deal_here", "_law_k"] : List Str)).Nodup := by decide +kernel
  refine t.d__law_numbers.fn (N := (["_law_deal_here", "_law_k"] : List Str)) sc__law_numbers (fun _ _ _ _ _ _ us hl => match us, hl with | [_], _ => rfl) (fun args h q e z => by unfold S_numbers at z; split at z <;> first | rfl | exact z.elim) fun f cdv A outer s H E on => ⟨_, (ss_last (ss_ret (se_fz (se_lc [("_law_k", 1)] rfl nd (si_range1 t.b_range (by rfl) (sa_cons (se_op ok_add2 op_add2 se_int (se_fn F__law_draw on (sa_cons (sv 0) (sa_cons se_int sa_nil)))) sa_nil)) (by kernel_rfl) (go_name (i := 1) (by decide)) (fun _ _ _ _ _ => pg_name (i := 1) nd rfl (.inl rfl)) (fun _ _ _ _ _ => sts_nil) (fun _ _ _ _ _ => (se_fn F__law_pick (On.blk on) (sa_cons (sv 0) (sa_cons (se_fz (se_lst (sa_cons (sv 1) (sa_cons (sv 1) (sa_cons (se_op ok_add2 op_add2 (se_op ok_mul2 op_mul2 se_int (sv 1)) se_int) (sa_cons (se_op ok_sub op_sub (se_op ok_pow op_pow se_int se_int) (sv 1)) sa_nil)))))) sa_nil)))))))), ?_⟩
  rintro args h q e z
  unfold S_numbers at z
  split at z
  · rename_i x
    obtain ⟨sr, z⟩ := z
    show (_ : WS) [some x, none] h _
    simp
    refine ⟨sr.less (by decide), fun k k0 k1 => ⟨by omega, by omega, ?_⟩⟩
    have hn : (1 + k).toNat ≤ 4 := by omega
    have h1n : 1 ≤ (1 + k).toNat := by omega
    generalize (1 + k).toNat = n at hn h1n
    refine lc_draw isNum 1 (by simp; exact Nat.lt_of_le_of_lt hn (by decide)) (fun _ _ _ _ => trivial) (fun D acc x' kk m nD hk qy qn hy => ?_) (fun ys hl hr => ?_)
    · simp at m hk
      obtain ⟨j, hj, rfl⟩ := m
      dsimp only [wipeM, List.set]
      have e1 : 4 < sizeLine := by decide
      simp
      have q2 : ∀ i : Int, 0 ≤ i → i ≤ 1000000 → qy (.int i) ((h.sp (1 + kk + 1)).put D (.lst acc)) := fun i i0 i1 => by
        have := hy (.int i) ⟨i, i0, i1, rfl⟩
        simpa [Nat.add_assoc] using this
      refine ⟨mul_ok (by decide) (by omega), ⟨by decide, by decide, by decide⟩, by decide, sr.sp (by omega), q2 _ (by omega) (by omega), q2 _ (by omega) (by omega), q2 _ (by omega) (by omega)⟩
    · have hl : ys.length = n := by simpa using hl
      simp
      refine ⟨h.sp 5, ?_, z ys (by omega) (by omega) hr⟩
      exact MH.sp_le _ (by omega)
  · exact z.elim
end MM
end
section
namespace MM
open PySem PySem.Spec PyProof.Rows L2
variable {P : Program} {w : World} {K : PySem.W.Frag} {mg : Str → Option Value} {base : Heap} {own : List Addr}
def S_Wlen (C : Addr) : Spec := fun args h q _ => ∃ xs, args = [W C xs] ∧ q (.int xs.length) h
@[simp ↓] theorem S_Wlen_s {C : Addr} {xs : List MV} {h : MH} {q : QV} {e : QX} : S_Wlen C [W C xs] h q e = q (.int xs.length) h := propext ⟨fun ⟨_, e1, z⟩ => by cases e1; exact z, fun z => ⟨_, rfl, z⟩⟩
theorem f_Wlen (t : Txt K mg own) : Me P w K mg base 1 (cAt own 0) "__len__" (S_Wlen (cAt own 0)) := by
  have nd : ((["self"] : List Str)).Nodup := by decide +kernel
  refine t.d_Weaving___len__.me (N := (["self"] : List Str)) t.c_Weaving sc_Weaving___len__ (fun _ _ _ _ _ _ us hl => match us, hl with | [_], _ => rfl) (fun args h q e ⟨xs, e1, _⟩ => by rw [e1]; rfl) fun f cdv A outer s H E on => ⟨_, (ss_last (ss_ret (se_callB cm_len t.b_len (by decide +kernel) (by rfl) (sa_cons (se_fld t.c_Weaving t.n_Weaving_events (sv 0)) sa_nil)))), ?_⟩
  rintro args h q e ⟨xs, rfl, z⟩
  show (_ : WS) [some (W (cAt own 0) xs)] h _
  simp
  exact QV.wk_i z
end MM
end
section
namespace MM
open PySem PySem.Spec PyProof.Rows L2
variable {P : Program} {w : World} {K : PySem.W.Frag} {mg : Str → Option Value} {base : Heap} {own : List Addr}
/-- a value that is no weaving -/
def noW : MV → Bool
  | .non | .bl _ | .int _ | .str _ | .tup _ | .lis _ => true
  | _ => false
/-- == of weavings of good events, with anything -/
def S_Weq (C : Addr) : Spec := fun args h q _ => ∃ (xs : List MV) (y : MV), args = [W C xs, y] ∧ (∀ x ∈ xs, GoodEv x) ∧ xs.length ≤ 10000 ∧ ((∃ ys, y = W C ys ∧ (∀ x ∈ ys, GoodEv x) ∧ ys.length ≤ 10000 ∧ q (.bl (eqP (.tup xs) (.tup ys))) h) ∨ (noW y = true ∧ q (.bl false) h))
@[simp ↓] theorem S_Weq_s {C : Addr} {xs ys : List MV} {h : MH} {q : QV} {e : QX} : S_Weq C [W C xs, W C ys] h q e = ((∀ x ∈ xs, GoodEv x) ∧ (∀ x ∈ ys, GoodEv x) ∧ xs.length ≤ 10000 ∧ ys.length ≤ 10000 ∧ q (.bl (eqP (.tup xs) (.tup ys))) h) := by
  refine propext (Iff.intro ?_ fun ⟨a, c, b, d, z⟩ => ⟨_, _, rfl, a, b, .inl ⟨_, rfl, c, d, z⟩⟩)
  rintro ⟨_, _, e1, a, b, z⟩
  cases e1
  rcases z with ⟨_, e2, c, d, z⟩ | ⟨n, _⟩
  · cases e2; exact ⟨a, c, b, d, z⟩
  · cases n
theorem S_Weq_n {C : Addr} {xs : List MV} {y : MV} {h : MH} {q : QV} {e : QX} (n : noW y = true) : S_Weq C [W C xs, y] h q e = ((∀ x ∈ xs, GoodEv x) ∧ xs.length ≤ 10000 ∧ q (.bl false) h) := by
  refine propext (Iff.intro ?_ fun ⟨a, b, z⟩ => ⟨_, _, rfl, a, b, .inr ⟨n, z⟩⟩)
  rintro ⟨_, _, e1, a, b, z⟩
  cases e1
  rcases z with ⟨_, e2, c, d, z⟩ | ⟨_, z⟩
  · subst e2; cases n
  · exact ⟨a, b, z⟩
@[simp ↓] theorem S_Weq_non {C : Addr} {xs : List MV} {h : MH} {q : QV} {e : QX} : S_Weq C [W C xs, .non] h q e = ((∀ x ∈ xs, GoodEv x) ∧ xs.length ≤ 10000 ∧ q (.bl false) h) := S_Weq_n rfl
@[simp ↓] theorem S_Weq_str {C : Addr} {xs : List MV} {z : Str} {h : MH} {q : QV} {e : QX} : S_Weq C [W C xs, .str z] h q e = ((∀ x ∈ xs, GoodEv x) ∧ xs.length ≤ 10000 ∧ q (.bl false) h) := S_Weq_n rfl
@[simp ↓] theorem S_Weq_tup {C : Addr} {xs : List MV} {z : List MV} {h : MH} {q : QV} {e : QX} : S_Weq C [W C xs, .tup z] h q e = ((∀ x ∈ xs, GoodEv x) ∧ xs.length ≤ 10000 ∧ q (.bl false) h) := S_Weq_n rfl
@[simp ↓] theorem S_Weq_lis {C : Addr} {xs : List MV} {z : List MV} {h : MH} {q : QV} {e : QX} : S_Weq C [W C xs, .lis z] h q e = ((∀ x ∈ xs, GoodEv x) ∧ xs.length ≤ 10000 ∧ q (.bl false) h) := S_Weq_n rfl
theorem ev_dt {x : MV} (g : GoodEv x) : Dt 1 100 x := by
  have st : ∀ k : Str, k ∈ (["erase", "fall", "open", "close", "drop", "sweep", "work", "age", "put"] : List Str) → Dt 0 16 (.str k) := by
    intro k hk
    simp only [List.mem_cons, List.mem_nil_iff, or_false] at hk
    rcases hk with rfl | rfl | rfl | rfl | rfl | rfl | rfl | rfl | rfl <;> exact Dt.str (by decide +kernel)
  have nu : ∀ i : Int, 0 ≤ i → i ≤ 1000000000 → Dt 0 20 (.int i) := fun i h0 h1 => by
    obtain ⟨a, b, c, d, l⟩ := Dt.int (i := i) (by omega)
    refine ⟨a, b, c, d, ?_⟩
    simp only [dM, PyData.shown]
    have := int_text_length_le10 (a := i) (k := 13) (by decide) (by omega)
    show (Str.ofString (toString i)).length ≤ 20
    rw [PySem.ofString_length]
    omega
  rcases g with ⟨k, hk, rfl⟩ | ⟨k, u, hk, hu, rfl⟩ | ⟨u, p, v, hu, hp, hp3, hv, hv2, rfl⟩
  · refine (Dt.tup (d := 0) (m := 20) fun y m => ?_).mono (Nat.le_refl _) (by simp)
    simp at m
    subst m
    exact (st k (by simp only [List.mem_cons, List.mem_nil_iff, or_false] at hk ⊢; rcases hk with h | h <;> simp [h])).mono (Nat.le_refl _) (by decide)
  · refine (Dt.tup (d := 0) (m := 20) fun y m => ?_).mono (Nat.le_refl _) (by simp)
    simp at m
    rcases m with rfl | rfl
    · exact (st k (by simp only [List.mem_cons, List.mem_nil_iff, or_false] at hk ⊢; rcases hk with h | h | h | h | h | h <;> simp [h])).mono (Nat.le_refl _) (by decide)
    · exact nu _ hu.1 hu.2
  · refine (Dt.tup (d := 0) (m := 20) fun y m => ?_).mono (Nat.le_refl _) (by simp)
    simp at m
    rcases m with rfl | rfl | rfl | rfl
    · exact (st _ (by simp)).mono (Nat.le_refl _) (by decide)
    · exact nu _ hu.1 hu.2
    · exact nu _ hp (by omega)
    · exact nu _ (by omega) hv2
theorem evs_dt {xs : List MV} (g : ∀ x ∈ xs, GoodEv x) (l : xs.length ≤ 10000) : Dt 2 1020004 (.tup xs) := Dt.tupN (fun x m => ev_dt (g x m)) l (by decide)
theorem f_Weq (t : Txt K mg own) : Me P w K mg base 1 (cAt own 0) "__eq__" (S_Weq (cAt own 0)) := by
  have nd : ((["self", "other"] : List Str)).Nodup := by decide +kernel
  refine t.d_Weaving___eq__.me (N := (["self", "other"] : List Str)) t.c_Weaving sc_Weaving___eq__ (fun _ _ _ _ _ _ us hl => match us, hl with | [_, _], _ => rfl) (fun args h q e ⟨xs, ys, e1, _⟩ => by rw [e1]; rfl) fun f cdv A outer s H E on => ⟨_, (ss_last (ss_ret (se_and (se_callB (cm_isi t.isi) t.b_isinstance (by decide +kernel) (by rfl) (sa_cons (sv 1) (sa_cons (se_gc t.g_Weaving) sa_nil))) (se_one (se_cmp ok_eq (op_eqM (hu64 on)) (se_fld t.c_Weaving t.n_Weaving_events (sv 0)) (se_fld t.c_Weaving t.n_Weaving_events (sv 1)) (by with_unfolding_all rfl)))))), ?_⟩
  rintro args h q e ⟨xs, y, rfl, hx, lx, ⟨ys, rfl, hy, ly, z⟩ | ⟨n, z⟩⟩
  · show (_ : WS) [some (W (cAt own 0) xs), some (W (cAt own 0) ys)] h _
    simp
    refine ⟨t.in_Weaving, ?_⟩
    exact bEq_dt (evs_dt hx lx) (evs_dt hy ly) (by simp; exact QV.wk_i z)
  · show (_ : WS) [some (W (cAt own 0) xs), some y] h _
    cases y <;> first | (cases n; done) | (simp [names7, names5, isB, t.in_Weaving]; exact QV.wk_i z)
theorem e_Weaving (t : Txt K mg own) : EqO P w K mg base 1 (cAt own 0) own (S_Weq (cAt own 0)) := (f_Weq t).eqO t.isi t.ins t.eq_Weaving
theorem W_refl {xs : List MV} (g : ∀ x ∈ xs, GoodEv x) (l : xs.length ≤ 10000) : eqP (.tup xs) (.tup xs) = true := eqP_refl (evs_dt g l)
theorem evs_da {xs : List MV} (g : ∀ x ∈ xs, GoodEv x) (l : xs.length ≤ 10000) : Da (.tup xs) := (evs_dt g l).da (by decide) (by decide)
end MM
end
section
namespace MM
open PySem PySem.Spec PyProof.Rows L2
variable {P : Program} {w : World} {K : PySem.W.Frag} {mg : Str → Option Value} {base : Heap} {own : List Addr}
def S_Wadd (C : Addr) : Spec := fun args h q _ => ∃ xs ys : List MV, args = [W C xs, W C ys] ∧ (∀ x ∈ xs, GoodEv x) ∧ (∀ x ∈ ys, GoodEv x) ∧ xs.length + ys.length ≤ 10000 ∧ q (W C (xs ++ ys)) h
@[simp ↓] theorem S_Wadd_s {C : Addr} {xs ys : List MV} {h : MH} {q : QV} {e : QX} : S_Wadd C [W C xs, W C ys] h q e = ((∀ x ∈ xs, GoodEv x) ∧ (∀ x ∈ ys, GoodEv x) ∧ xs.length + ys.length ≤ 10000 ∧ q (W C (xs ++ ys)) h) := propext ⟨fun ⟨_, _, e1, z⟩ => by cases e1; exact z, fun z => ⟨_, _, rfl, z⟩⟩
theorem goods_app {xs ys : List MV} (hx : ∀ x ∈ xs, GoodEv x) (hy : ∀ x ∈ ys, GoodEv x) : ∀ x ∈ xs ++ ys, GoodEv x := fun x m => (List.mem_append.mp m).elim (hx x) (hy x)
theorem f_Wadd (t : Txt K mg own) (C_Weaving1 : Cl P w K mg base 5 "Weaving" (cAt own 0) (S_WeavingS (cAt own 0))) : Me P w K mg base 6 (cAt own 0) "__add__" (S_Wadd (cAt own 0)) := by
  have nd : ((["self", "other"] : List Str)).Nodup := by decide +kernel
  refine t.d_Weaving___add__.me (N := (["self", "other"] : List Str)) t.c_Weaving sc_Weaving___add__ (fun _ _ _ _ _ _ us hl => match us, hl with | [_, _], _ => rfl) (fun args h q e ⟨xs, ys, e1, _⟩ => by rw [e1]; rfl) fun f cdv A outer s H E on => ⟨_, (ss_last (ss_ret (se_cl C_Weaving1 on (sa_cons (se_fz (se_lst (sa_star (se_fld t.c_Weaving t.n_Weaving_events (sv 0)) (sa_star (se_fld t.c_Weaving t.n_Weaving_events (sv 1)) sa_nil)))) sa_nil)))), ?_⟩
  rintro args h q e ⟨xs, ys, rfl, hx, hy, l, z⟩
  have hs : 10000 < sizeLine := by decide
  show (_ : WS) [some (W (cAt own 0) xs), some (W (cAt own 0) ys)] h _
  simp
  refine ⟨by omega, fun x m => goods_app hx hy x (List.mem_append.mpr m), by omega, QV.wk_i z⟩
end MM
end
section
namespace MM
open PySem PySem.Spec PyProof.Rows L2
variable {P : Program} {w : World} {K : PySem.W.Frag} {mg : Str → Option Value} {base : Heap} {own : List Addr}
def repL (n : Nat) (xs : List MV) : List MV := (List.replicate n xs).flatten
theorem repL_mem {n : Nat} {xs : List MV} {x : MV} (m : x ∈ repL n xs) : x ∈ xs := by
  obtain ⟨l, hl, hx⟩ := List.mem_flatten.mp m
  rw [(List.mem_replicate.mp hl).2] at hx
  exact hx
theorem repL_len {n : Nat} {xs : List MV} : (repL n xs).length = n * xs.length := by unfold repL; simp [PyProof.Rows.lm_len_rep_flat]
def S_Wmul (C : Addr) : Spec := fun args h q _ => ∃ (xs : List MV) (k : Int), args = [W C xs, .int k] ∧ (∀ x ∈ xs, GoodEv x) ∧ 0 ≤ k ∧ k ≤ 10 ∧ xs.length ≤ 1000 ∧ q (W C (List.replicate k.toNat xs).flatten) h
@[simp ↓] theorem S_Wmul_s {C : Addr} {xs : List MV} {k : Int} {h : MH} {q : QV} {e : QX} : S_Wmul C [W C xs, .int k] h q e = ((∀ x ∈ xs, GoodEv x) ∧ 0 ≤ k ∧ k ≤ 10 ∧ xs.length ≤ 1000 ∧ q (W C (List.replicate k.toNat xs).flatten) h) := propext ⟨fun ⟨_, _, e1, z⟩ => by cases e1; exact z, fun z => ⟨_, _, rfl, z⟩⟩
theorem f_Wmul (t : Txt K mg own) (C_Weaving1 : Cl P w K mg base 5 "Weaving" (cAt own 0) (S_WeavingS (cAt own 0))) : Me P w K mg base 6 (cAt own 0) "__mul__" (S_Wmul (cAt own 0)) := by
  have nd : ((["self", "many"] : List Str)).Nodup := by decide +kernel
  refine t.d_Weaving___mul__.me (N := (["self", "many"] : List Str)) t.c_Weaving sc_Weaving___mul__ (fun _ _ _ _ _ _ us hl => match us, hl with | [_, _], _ => rfl) (fun args h q e ⟨xs, k, e1, _⟩ => by rw [e1]; rfl) fun f cdv A outer s H E on => ⟨_, (ss_last (ss_ret (se_cl C_Weaving1 on (sa_cons (se_op ok_mul2 op_mul2 (se_fld t.c_Weaving t.n_Weaving_events (sv 0)) (sv 1)) sa_nil)))), ?_⟩
  rintro args h q e ⟨xs, k, rfl, hx, k0, k1, l, z⟩
  show (_ : WS) [some (W (cAt own 0) xs), some (.int k)] h _
  have hl : (repL k.toNat xs).length ≤ 10000 := by
    rw [repL_len]
    exact Nat.le_trans (Nat.mul_le_mul (show k.toNat ≤ 10 by omega) l) (by decide)
  simp
  rw [repL_len] at hl
  exact ⟨⟨by omega, by omega⟩, l, fun x _ m => hx x m, hl, QV.wk_i z⟩
end MM
end
section
namespace MM
open PySem PySem.Spec PyProof.Rows L2
variable {P : Program} {w : World} {K : PySem.W.Frag} {mg : Str → Option Value} {base : Heap} {own : List Addr}
theorem cnt_up {lo hi st : Int} {n : Nat} (h : 0 < st) (h1 : 0 ≤ lo) (h2 : hi ≤ n) : (if lo < hi then (hi - lo - 1) / st + 1 else 0).toNat ≤ n := by
  split
  · have : (hi - lo - 1) / st ≤ hi - lo - 1 := Int.ediv_le_self st (by omega)
    omega
  · simp
theorem cnt_down {lo hi st : Int} {n : Nat} (h : st < 0) (h1 : lo ≤ (n : Int) - 1) (h2 : -1 ≤ hi) : (if lo > hi then (lo - hi - 1) / (-st) + 1 else 0).toNat ≤ n := by
  split
  · have : (lo - hi - 1) / (-st) ≤ lo - hi - 1 := Int.ediv_le_self (-st) (by omega)
    omega
  · simp
theorem slT_len {α : Type} {xs : List α} {a b c : Option Int} (h0 : c ≠ some 0) : (slT xs a b c).length ≤ xs.length := by
  refine Nat.le_trans (List.length_filterMap_le _ _) ?_
  rw [List.length_range]
  unfold cntT adjT Builtin.Slice.slicePlaces Builtin.Slice.sliceAdjust
  have hs : c.getD 1 ≠ 0 := by
    cases c with
    | none => decide
    | some i => exact fun e => h0 (by rw [show i = 0 from e])
  generalize c.getD 1 = st at hs
  generalize xs.length = n
  rcases Int.lt_or_gt_of_ne hs with g | g
  · have g1 : ¬ st > 0 := by omega
    simp only [g, g1, if_true, if_false]
    refine cnt_down g ?_ ?_
    · cases a with
      | none => simp
      | some v => simp only; split <;> omega
    · cases b with
      | none => simp
      | some v => simp only; split <;> omega
  · have g1 : ¬ st < 0 := by omega
    simp only [g, g1, if_true, if_false]
    refine cnt_up g ?_ ?_
    · cases a with
      | none => simp
      | some v => simp only; split <;> omega
    · cases b with
      | none => simp
      | some v => simp only; split <;> omega
def kWg (C E : Addr) (xs : List MV) (h : MH) (q : QV) (e : QX) : MV → Prop := fun y => match y with
  | .int i => (∀ v, 0 ≤ i → xs[i.toNat]? = some v → q v h) ∧ (¬ (0 ≤ i ∧ i < xs.length) → e ⟨.ref E, some [("at", .int i)]⟩ h)
  | .slc a b c => c ≠ some 0 ∧ q (W C (slT xs a b c)) h
  | _ => False
def S_Wget (C E : Addr) : Spec := fun args h q e => ∃ (xs : List MV) (y : MV), args = [W C xs, y] ∧ (∀ x ∈ xs, GoodEv x) ∧ xs.length ≤ 10000 ∧ kWg C E xs h q e y
@[simp ↓] theorem S_Wget_i {C E : Addr} {xs : List MV} {i : Int} {h : MH} {q : QV} {e : QX} : S_Wget C E [W C xs, .int i] h q e = ((∀ x ∈ xs, GoodEv x) ∧ xs.length ≤ 10000 ∧ (∀ v, 0 ≤ i → xs[i.toNat]? = some v → q v h) ∧ (¬ (0 ≤ i ∧ i < xs.length) → e ⟨.ref E, some [("at", .int i)]⟩ h)) := propext ⟨fun ⟨_, _, e1, z⟩ => by cases e1; exact z, fun z => ⟨_, _, rfl, z⟩⟩
@[simp ↓] theorem S_Wget_s {C E : Addr} {xs : List MV} {a b c : Option Int} {h : MH} {q : QV} {e : QX} : S_Wget C E [W C xs, .slc a b c] h q e = ((∀ x ∈ xs, GoodEv x) ∧ xs.length ≤ 10000 ∧ c ≠ some 0 ∧ q (W C (slT xs a b c)) h) := propext ⟨fun ⟨_, _, e1, z⟩ => by cases e1; exact z, fun z => ⟨_, _, rfl, z⟩⟩
theorem f_Wget (t : Txt K mg own) (F_is_integer : Fn P w K mg base 1 "is_integer" (pure1 (okIntS own) fun x _ => .bl (isInt x))) (C_Weaving1 : Cl P w K mg base 5 "Weaving" (cAt own 0) (S_WeavingS (cAt own 0))) (R_NoEvent : ErrM P w K mg base "NoEvent" "at" (er K "NoEvent")) : Me P w K mg base 6 (cAt own 0) "__getitem__" (S_Wget (cAt own 0) (er K "NoEvent")) := by
  have nd : ((["self", "at"] : List Str)).Nodup := by decide +kernel
  refine t.d_Weaving___getitem__.me (N := (["self", "at"] : List Str)) t.c_Weaving sc_Weaving___getitem__ (fun _ _ _ _ _ _ us hl => match us, hl with | [_, _], _ => rfl) (fun args h q e ⟨xs, y, e1, _⟩ => by rw [e1]; rfl) fun f cdv A outer s H E on => ⟨_, (ss_cons (ss_if (st_not (st_val (se_fn F_is_integer on (sa_cons (sv 1) sa_nil)))) (ss_last (ss_ret (se_cl C_Weaving1 on (sa_cons (se_ixS (se_fld t.c_Weaving t.n_Weaving_events (sv 0)) (sv 1)) sa_nil)))) ss_nil) (ss_cons (ss_if (st_not (st_chain ok_le ok_lt op_le op_lt se_int (sv 1) (se_callB cm_len t.b_len (by decide +kernel) (by rfl) (sa_cons (se_fld t.c_Weaving t.n_Weaving_events (sv 0)) sa_nil)))) (ss_last (ss_raise R_NoEvent on (sv 1))) ss_nil) (ss_last (ss_ret (se_ixS (se_fld t.c_Weaving t.n_Weaving_events (sv 0)) (sv 1)))))), ?_⟩
  rintro args h q e ⟨xs, y, rfl, hx, lx, z⟩
  have hs : 10000 < sizeLine := by decide
  cases y <;> first | exact z.elim | skip
  · rename_i i
    show (_ : WS) [some (W (cAt own 0) xs), some (.int i)] h _
    obtain ⟨z1, z2⟩ := z
    simp
    split
    · split
      · exact QX.wk_i (z2 (by omega))
      · rename_i h1 h2
        refine atIK_nat h1 (by omega) fun y ey => ?_
        simp
        exact QV.wk_i (z1 y h1 ey)
    · exact QX.wk_i (z2 (by omega))
  · rename_i a b c
    obtain ⟨h0, z⟩ := z
    show (_ : WS) [some (W (cAt own 0) xs), some (.slc a b c)] h _
    have l := slT_len (xs := xs) (a := a) (b := b) h0
    simp [isInt]
    exact ⟨h0, by omega, fun x m => hx x (slT_mem m), by omega, QV.wk_i z⟩
theorem g_Weaving (t : Txt K mg own) {E : Addr} (M : Me P w K mg base 6 (cAt own 0) "__getitem__" (S_Wget (cAt own 0) E)) : GetO P w K mg base 6 (cAt own 0) (S_Wget (cAt own 0) E) := M.getO t.d_Weaving___getitem__ t.sq_Weaving
end MM
end
section
namespace MM
open PySem PySem.Spec PyProof.Rows L2
variable {P : Program} {w : World} {K : PySem.W.Frag} {mg : Str → Option Value} {base : Heap} {own : List Addr}
def S_Wup (C : Addr) : Spec := fun args h q _ => ∃ xs, args = [W C xs] ∧ (∀ x ∈ xs, GoodEv x) ∧ xs.length < 64 ∧ ∀ out : List Int, out.Pairwise (· < ·) → (∀ k, k ∈ out ↔ k ∈ ups xs) → q (.tup (out.map MV.int)) h
@[simp ↓] theorem S_Wup_s {C : Addr} {xs : List MV} {h : MH} {q : QV} {e : QX} : S_Wup C [W C xs] h q e = ((∀ x ∈ xs, GoodEv x) ∧ xs.length < 64 ∧ ∀ out : List Int, out.Pairwise (· < ·) → (∀ k, k ∈ out ↔ k ∈ ups xs) → q (.tup (out.map MV.int)) h) := propext ⟨fun ⟨_, e1, z⟩ => by cases e1; exact z, fun z => ⟨_, rfl, z⟩⟩
theorem p_Wup (t : Txt K mg own) : Pr P w K mg base 1 (cAt own 0) "uploads" (S_Wup (cAt own 0)) := by
  have nd : ((["self", "event"] : List Str)).Nodup := by decide +kernel
  refine t.d_Weaving_uploads.pr (N := (["self", "event"] : List Str)) t.c_Weaving sc_Weaving_uploads (fun _ _ _ _ _ _ us hl => match us, hl with | [_], _ => rfl) (fun args h q e ⟨xs, e1, _⟩ => by rw [e1]; rfl) fun f cdv A outer s H E on => ⟨_, (ss_last (ss_ret (se_callTy cm_tuple t.b_tuple (by decide +kernel) (by rfl) (sa_cons (se_fz (se_srtSet rfl t.b_sorted t.b_set (by rfl) (by rfl) (sa_cons (se_fz (se_lc [("event", 1)] rfl nd (si_seq (se_fld t.c_Weaving t.n_Weaving_events (sv 0))) (by kernel_rfl) (go_name (i := 1) (by decide)) (fun _ _ _ _ _ => pg_name (i := 1) nd rfl (.inl rfl)) (fun _ _ _ _ _ => (sts_one (st_cmp ok_gt op_gt (se_callB cm_len t.b_len (by decide +kernel) (by rfl) (sa_cons (sv 1) sa_nil)) se_int (by with_unfolding_all rfl)))) (fun _ _ _ _ _ => (se_callTy cm_int t.b_int (by decide +kernel) (by rfl) (sa_cons (se_ix (sv 1) se_int) sa_nil))))) sa_nil))) sa_nil)))), ?_⟩
  rintro args h q e ⟨xs, rfl, gx, hl, z⟩
  show (_ : WS) [some (W (cAt own 0) xs), none] h _
  simp
  have hs : 64 < sizeLine := by decide
  refine lc_fm (fun x => (upOf x).map MV.int) (by omega) (fun D acc n => rfl) (fun D acc x m n qy qn k1 k2 => ?_) ?_
  · dsimp only [wipeM, List.set]
    rcases good_up (gx x m) with ⟨k, rfl, e1⟩ | ⟨k, u, r, rfl, e1, hu, hr⟩
    · simp [kLcB_s]
      exact k2 (by rw [e1]; rfl)
    · simp [kLcB_s]
      rw [if_pos (by omega)]
      exact k1 _ (by rw [e1]; rfl)
  · intro p2 np2
    simp
    have hlen : (ups xs).length < 64 := Nat.lt_of_le_of_lt (List.length_filterMap_le _ _) hl
    rw [MH.del_put np2]
    refine ⟨ups xs, List.map_filterMap.symm, hlen, fun out o1 o2 p3 np3 => ?_⟩
    simp [MH.del_put np3]
    exact QV.wk_i (z out o1 o2)
end MM
end
section
namespace MM
open PySem PySem.Spec PyProof.Rows L2
variable {P : Program} {w : World} {K : PySem.W.Frag} {mg : Str → Option Value} {base : Heap} {own : List Addr}
/-- the text of a weaving of good events -/
def txtW (xs : List MV) : Str := Txt.join "; " (xs.map txtE)
def S_Wstr (C : Addr) : Spec := fun args h q _ => ∃ xs : List MV, args = [W C xs] ∧ (∀ x ∈ xs, GoodEv x) ∧ xs.length ≤ 10000 ∧ q (.str (txtW xs)) h
@[simp ↓] theorem S_Wstr_s {C : Addr} {xs : List MV} {h : MH} {q : QV} {e : QX} : S_Wstr C [W C xs] h q e = ((∀ x ∈ xs, GoodEv x) ∧ xs.length ≤ 10000 ∧ q (.str (txtW xs)) h) := propext ⟨fun ⟨_, e1, z⟩ => by cases e1; exact z, fun z => ⟨_, rfl, z⟩⟩
theorem f_Wstr (t : Txt K mg own) (F_event_text : Fn P w K mg base 1 "event_text" (pure1 (fun x _ => GoodEv x) fun x _ => .str (txtE x))) : Me P w K mg base 2 (cAt own 0) "__str__" (S_Wstr (cAt own 0)) := by
  have nd : ((["self", "event"] : List Str)).Nodup := by decide +kernel
  refine t.d_Weaving___str__.me (N := (["self", "event"] : List Str)) t.c_Weaving sc_Weaving___str__ (fun _ _ _ _ _ _ us hl => match us, hl with | [_], _ => rfl) (fun args h q e ⟨xs, e1, _⟩ => by rw [e1]; rfl) fun f cdv A outer s H E on => ⟨_, (ss_last (ss_ret (se_bm ok_join PySem.F.plainAttrs_str PySem.F.slot_str_join PySem.F.type_str_join mt_join se_str (sa_cons (se_fz (se_lc [("event", 1)] rfl nd (si_seq (se_fld t.c_Weaving t.n_Weaving_events (sv 0))) (by kernel_rfl) (go_name (i := 1) (by decide)) (fun _ _ _ _ _ => pg_name (i := 1) nd rfl (.inl rfl)) (fun _ _ _ _ _ => sts_nil) (fun _ _ _ _ _ => (se_fn F_event_text (On.blk on) (sa_cons (sv 1) sa_nil))))) sa_nil)))), ?_⟩
  rintro args h q e ⟨xs, rfl, hx, lx, z⟩
  have hs : 10000 < sizeLine := by decide
  show (_ : WS) [some (W (cAt own 0) xs), none] h _
  simp
  refine lc_map (fun y => .str (txtE y)) (by omega) (fun _ _ _ => rfl) (fun D acc y m n qy qn kk => ?_) ?_
  · dsimp only [wipeM, List.set]
    simp
    exact ⟨hx y m, kk⟩
  · have l1 : ((xs.map txtE).map (·.length)).sum ≤ (xs.map txtE).length * 84 := sum_le fun z m => by
      obtain ⟨y, my, rfl⟩ := List.mem_map.mp m
      exact txtE_len (hx y my)
    have e : (unS ∘ fun y => .str (txtE y)) = txtE := rfl
    simp at l1 ⊢
    simp only [e]
    have e1 : (Str.ofString "; ").length = 2 := by decide +kernel
    rw [e1]
    refine ⟨?_, QV.wk_i z⟩
    show (xs.map (fun y => (txtE y).length)).sum + xs.length * 2 ≤ 16777216
    have l2 : (xs.map (fun y => (txtE y).length)).sum ≤ xs.length * 84 := l1
    omega
end MM
end
section
namespace MM
open PySem PySem.Spec PyProof.Rows L2
variable {P : Program} {w : World} {K : PySem.W.Frag} {mg : Str → Option Value} {base : Heap} {own : List Addr}
/-- the parts of a weaving's text -/
def partsT (z : Str) : List Str := if z = "" then [] else Txt.split z "; "
/-- the number of the first part that can't be read -/
def badT (z : Str) : Option Nat := (partsT z).findIdx? fun y => !evB (evT y)
theorem evT_cases (z : Str) : (evT z = .non ∧ evB (evT z) = false) ∨ (evB (evT z) = true ∧ ∃ xs, evT z = .tup xs) := by
  have key : ∀ x : MV, ((if evB x then x else .non) = .non ∧ evB (if evB x then x else .non) = false) ∨ (evB (if evB x then x else .non) = true ∧ ∃ xs, (if evB x then x else MV.non) = .tup xs) := fun x => by
    by_cases c : evB x = true
    · rw [if_pos c]
      refine .inr ⟨c, ?_⟩
      cases x <;> first | exact ⟨_, rfl⟩ | cases c
    · rw [if_neg c]
      exact .inl ⟨rfl, rfl⟩
  exact key _
theorem evB_ok {x : MV} (e : evB x = true) : okE x = true := by
  cases x <;> first | (cases e; done) | skip
  rename_i xs
  cases xs with
  | nil => cases e
  | cons k ns =>
    cases k <;> first | (cases e; done) | skip
    rename_i k
    simp only [evB, Bool.and_eq_true] at e
    obtain ⟨_, hn, hl⟩ := e
    have l3 : ns.length ≤ 3 := by
      split at hl
      · unfold putB at hl
        split at hl
        · simp
        · cases hl
      · have := of_decide_eq_true hl
        split at this <;> omega
    have h1 : ns.all okV = true := List.all_eq_true.mpr fun y m => by
      have := List.all_eq_true.mp hn y m
      cases y <;> first | rfl | cases this
    simp only [okE, List.all_cons, okV, h1, Bool.true_and, List.length_cons]
    apply decide_eq_true
    omega
def S_read (C E : Addr) : Spec := fun args h q e => ∃ z : Str, args = [.ref C, .str z] ∧ z.length ≤ 9000 ∧ (match badT z with
  | some i => e ⟨.ref E, some [("at", .int i)]⟩ h
  | none => q (W C ((partsT z).map evT)) h)
theorem f_read (t : Txt K mg own) (F_event_in : Fn P w K mg base 3 "event_in" (fun args h q _ => ∃ z : Str, args = [.str z] ∧ z.length ≤ 1000000 ∧ q (evT z) h)) (C_Weaving1 : Cl P w K mg base 5 "Weaving" (cAt own 0) (S_Weaving own (cAt own 0) (er K "InvalidEvent"))) (R_InvalidText : ErrM P w K mg base "InvalidText" "at" (er K "InvalidText")) :
    CmM P w K mg base 6 (cAt own 0) "read" (S_read (cAt own 0) (er K "InvalidText")) := by
  have nd : ((["cls", "text", "events", "at", "part", "event"] : List Str)).Nodup := by decide +kernel
  refine t.d_Weaving_read.cm (N := (["cls", "text", "events", "at", "part", "event"] : List Str)) sc_Weaving_read (fun _ _ _ _ _ _ us hl => match us, hl with | [_, _], _ => rfl) (fun args h q e ⟨z, e1, _⟩ => by rw [e1]; rfl) fun f cdv A outer s H E on => ⟨_, (ss_cons (sset 2 nd (se_lst sa_nil)) (ss_cons (ss_for (passes_of rfl) rfl (si_enum2 t.b_enumerate (by rfl) (sa_cons (se_if (st_cmp ok_ne (op_neM (hu64 on)) (sv 1) se_str (by with_unfolding_all rfl)) (se_fz (se_bm ok_split PySem.F.plainAttrs_str PySem.F.slot_str_split PySem.F.type_str_split mt_split (sv 1) (sa_cons se_str sa_nil))) (se_fz (se_lst sa_nil))) sa_nil)) (sg_tup rfl (sgs_cons (i := 3) nd (sgs_cons (i := 4) nd sgs_nil))) (ss_cons (sset 5 nd (se_fn F_event_in on (sa_cons (sv 4) sa_nil))) (ss_cons (ss_if (st_cmp ok_is op_isN (sv 5) se_non (by with_unfolding_all rfl)) (ss_last (ss_raise R_InvalidText on (sv 3))) ss_nil) (ss_last (ss_expr (se_bm ok_append PySem.F.plainAttrs_list PySem.F.slot_list_append PySem.F.type_list_append mt_append (sv 2) (sa_cons (sv 5) sa_nil))))))) (ss_last (ss_ret (se_callL 0 C_Weaving1 on (sa_cons (sv 2) sa_nil)))))), ?_⟩
  rintro args h q e ⟨z, rfl, lz, k⟩
  have hs : 1000002 < sizeLine := by decide
  show (_ : WS) [some (.ref (cAt own 0)), some (.str z), none, none, none, none] h _
  simp
  intro p np
  simp
  have wv : ∀ (xs : List MV) (q : QV) (e : QX), (∀ x ∈ xs, evB x = true) → xs.length ≤ 10000 → q (W (cAt own 0) xs) (h.put p (.lst xs)) → S_Weaving own (cAt own 0) (er K "InvalidEvent") [.ref p] (h.put p (.lst xs)) q e := fun xs q e g l z => by
    refine ⟨⟨.type "list", by simp only [typM, MH.put_same], fun C z => by cases z⟩, ?_⟩
    have e1 : seqM (h.put p (.lst xs)) (.ref p) = some xs := by simp only [seqM, MH.put_same]
    have e2 : badE xs = none := bad_no fun j y _ ey => g y (List.mem_of_getElem? ey)
    rw [e1]
    dsimp only
    rw [e2]
    exact ⟨fun x m => evB_ok (g x m), l, z⟩
  have le0 : ∀ o : MO, MH.le h (h.put p o) := fun o => MH.le_put np
  split
  · rename_i hz
    have k : q (W (cAt own 0) []) h := by
      have e1 : badT z = none := by unfold badT partsT; rw [if_pos hz]; rfl
      have e2 : partsT z = [] := by unfold partsT; rw [if_pos hz]
      rw [e1, e2] at k
      exact k
    refine for_rule (fun r ρ h' => r = [] ∧ h' = h.put p (.lst []) ∧ ρ = [some (.ref (cAt own 0)), some (.str z), some (.ref p), none, none, none]) ⟨rfl, rfl, rfl⟩ (fun _ _ _ _ => rfl) ?_ ?_
    · rintro x r ρ h' ⟨e, _⟩
      cases e
    · rintro ρ h' ⟨_, rfl, rfl⟩
      simp
      exact wv [] _ _ (fun x m => by cases m) (by simp) ⟨h, le0 _, k⟩
  · rename_i hz
    have ep : partsT z = Txt.split z "; " := by unfold partsT; rw [if_neg hz]
    have e1 : (Str.ofString "; ").length = 2 := by decide +kernel
    rw [e1]
    refine ⟨by decide, by omega, ?_⟩
    have lp : (Txt.split z "; ").length ≤ z.length + 2 := PyProof.Rows.split_le z _
    have lw : ∀ y ∈ Txt.split z "; ", y.length ≤ z.length := fun y m => PyProof.Rows.part_short m
    unfold badT at k
    rw [ep] at k
    generalize Txt.split z "; " = ps at k lp lw
    refine for_rule (fun r ρ h' => ∃ i a b c, r = (enumM (ps.map MV.str)).drop i ∧ i ≤ ps.length ∧ (∀ j y, j < i → ps[j]? = some y → evB (evT y) = true) ∧ h' = h.put p (.lst ((ps.take i).map evT)) ∧ ρ = [some (.ref (cAt own 0)), some (.str z), some (.ref p), a, b, c]) ⟨0, none, none, none, by simp, by simp, by simp, by simp, rfl⟩ (fun _ _ _ _ => rfl) ?_ ?_
    · rintro x r ρ h' ⟨i, a, b, c, er, li, hk, rfl, rfl⟩ N hN
      obtain ⟨y, ey, rfl, er2⟩ := enum_drop er
      rw [List.getElem?_map] at ey
      obtain ⟨y, ey2, rfl⟩ := Option.map_eq_some_iff.mp ey
      have il := (List.getElem?_eq_some_iff.mp ey2).1
      simp
      refine ⟨Nat.le_trans (lw y (List.mem_of_getElem? ey2)) (by omega), ?_⟩
      rcases evT_cases y with ⟨en, eb⟩ | ⟨eb, xs, et⟩
      · rw [en]
        simp
        have ei : (ps.findIdx? fun y => !evB (evT y)) = some i := List.findIdx?_eq_some_iff_getElem.mpr ⟨il, by
          have : ps[i] = y := by
            have e9 := List.getElem?_eq_getElem il
            rw [ey2] at e9
            exact (Option.some.inj e9).symm
          rw [this, eb]
          rfl, fun j hj => by
          rw [hk j _ hj (List.getElem?_eq_getElem (by omega))]
          decide⟩
        rw [ei] at k
        exact ⟨h, le0 _, k⟩
      · rw [et]
        simp
        have l9 : min i ps.length ≤ ps.length := Nat.min_le_right _ _
        refine ⟨by omega, hN _ _ ⟨i + 1, _, _, _, er2, il, fun j y' hj e' => ?_, ?_, rfl⟩⟩
        · rcases Nat.lt_succ_iff_lt_or_eq.mp hj with hj | rfl
          · exact hk j y' hj e'
          · rw [ey2] at e'
            cases e'
            exact eb
        · have : (ps.take (i + 1)).map evT = List.take i (ps.map evT) ++ [.tup xs] := by
            rw [← et, List.map_take, List.take_add_one, List.getElem?_map, ey2]
            rfl
          rw [this]
    · rintro ρ h' ⟨i, a, b, c, er, li, hk, rfl, rfl⟩
      have l : i = (ps.map MV.str).length := enum_end er (by simpa using li)
      simp at l
      subst l
      simp
      have all : ∀ y ∈ ps, evB (evT y) = true := fun y m => by
        obtain ⟨j, l, e⟩ := List.getElem_of_mem m
        exact hk j y l (by rw [← e]; exact List.getElem?_eq_getElem l)
      have en : (ps.findIdx? fun y => !evB (evT y)) = none := List.findIdx?_eq_none_iff.mpr fun y m => by rw [all y m]; rfl
      rw [en] at k
      exact wv _ _ _ (fun x m => by
        obtain ⟨y, my, rfl⟩ := List.mem_map.mp m
        exact all y my) (by rw [List.length_map]; omega) ⟨h, le0 _, k⟩
end MM
end
section
namespace MM
open PySem PySem.Spec PyProof.Rows L2
variable {P : Program} {w : World} {K : PySem.W.Frag} {mg : Str → Option Value} {base : Heap} {own : List Addr}
theorem f__law_events (t : Txt K mg own) (F__law_draw : Fn P w K mg base 1 "_law_draw" S_draw) (F__law_event : Fn P w K mg base 3 "_law_event" S_event) (F__law_numbers : Fn P w K mg base 3 "_law_numbers" S_numbers) : Fn P w K mg base 4 "_law_events" S_events := by
  have nd : ((["_law_deal_here", "_law_parts", "_law_many", "_law_uploads", "_law_k"] : List Str)).Nodup := by decide +kernel
  refine t.d__law_events.fn (N := (["_law_deal_here", "_law_parts", "_law_many", "_law_uploads", "_law_k"] : List Str)) sc__law_events (fun _ _ _ _ _ _ us hl => match us, hl with | [_, _, _], _ => rfl) (fun args h q e z => by unfold S_events at z; split at z <;> first | rfl | exact z.elim) fun f cdv A outer s H E on => ⟨_, (ss_cons (sset 3 nd (se_fn F__law_numbers on (sa_cons (sv 0) sa_nil))) (ss_last (ss_ret (se_fz (se_lc [("_law_k", 4)] rfl nd (si_range1 t.b_range (by rfl) (sa_cons (se_fn F__law_draw on (sa_cons (sv 0) (sa_cons (se_op ok_add2 op_add2 (sv 2) se_int) sa_nil))) sa_nil)) (by kernel_rfl) (go_name (i := 4) (by decide)) (fun _ _ _ _ _ => pg_name (i := 4) nd rfl (.inl rfl)) (fun _ _ _ _ _ => sts_nil) (fun _ _ _ _ _ => (se_fn F__law_event (On.blk on) (sa_cons (sv 0) (sa_cons (sv 3) (sa_cons (sv 1) sa_nil)))))))))), ?_⟩
  rintro args h q e z
  unfold S_events at z
  split at z
  · rename_i x parts many
    obtain ⟨sr, hp1, hp3, m0, m1, z⟩ := z
    show (_ : WS) [some x, some (.int parts), some (.int many), none, none] h _
    simp
    refine ⟨sr.less (by omega), fun us u1 u4 hu => ⟨sr.sp (by omega), by omega, by omega, fun k k0 k1 => ⟨by omega, by omega, ?_⟩⟩⟩
    have hn : k.toNat ≤ many.toNat := by omega
    have hn2 : k.toNat ≤ 100 := by omega
    generalize k.toNat = n at hn hn2
    refine lc_draw (fun y => GoodEv y ∧ ∀ u, upOf y = some u → MV.int u ∈ us) 5 (by simp; exact Nat.lt_of_le_of_lt hn2 (by decide)) (fun _ _ _ _ => trivial) (fun D acc x' kk m nD hk qy qn hy => ?_) (fun ys hl hr => ?_)
    · dsimp only [wipeM, List.set]
      simp at hk
      simp
      refine ⟨u1, u4, hu, sr.sp (by omega), hp1, hp3, fun y gy gu => ?_⟩
      have := hy y ⟨gy, gu⟩
      simpa [Nat.add_assoc] using this
    · have hl : ys.length = n := by simpa using hl
      simp
      refine ⟨h.sp 600, MH.sp_le _ (by omega), z ys ⟨by omega, fun y m => (hr y m).1, us, u4, fun y m => (hr y m).2⟩⟩
  · exact z.elim
end MM
end
section
namespace MM
open PySem PySem.Spec PyProof.Rows L2
variable {P : Program} {w : World} {K : PySem.W.Frag} {mg : Str → Option Value} {base : Heap} {own : List Addr}
theorem f_Wrmul (t : Txt K mg own) (O_mul : OpO P w K mg base 6 (cAt own 0) "mul" (S_Wmul (cAt own 0))) : Me P w K mg base 7 (cAt own 0) "__rmul__" (S_Wmul (cAt own 0)) := by
  have nd : ((["self", "many"] : List Str)).Nodup := by decide +kernel
  refine t.d_Weaving___rmul__.me (N := (["self", "many"] : List Str)) t.c_Weaving sc_Weaving___rmul__ (fun _ _ _ _ _ _ us hl => match us, hl with | [_, _], _ => rfl) (fun args h q e ⟨xs, k, e1, _⟩ => by rw [e1]; rfl) fun f cdv A outer s H E on => ⟨_, (ss_last (ss_ret (se_mulO O_mul on (sv 0) (sv 1)))), ?_⟩
  rintro args h q e ⟨xs, k, rfl, hx, k0, k1, l, z⟩
  show (_ : WS) [some (W (cAt own 0) xs), some (.int k)] h _
  simp
  exact ⟨hx, k0, k1, l, QV.wk_i z⟩
end MM
end
section
namespace MM
open PySem PySem.Spec PyProof.Rows L2
variable {P : Program} {w : World} {K : PySem.W.Frag} {mg : Str → Option Value} {base : Heap} {own : List Addr}
def S_Wle (C : Addr) : Spec := fun args h q _ => ∃ xs ys : List MV, args = [W C xs, W C ys] ∧ (∀ x ∈ xs, GoodEv x) ∧ (∀ x ∈ ys, GoodEv x) ∧ xs.length ≤ 10000 ∧ ys.length ≤ 10000 ∧ q (.bl (subB xs ys)) h
@[simp ↓] theorem S_Wle_s {C : Addr} {xs ys : List MV} {h : MH} {q : QV} {e : QX} : S_Wle C [W C xs, W C ys] h q e = ((∀ x ∈ xs, GoodEv x) ∧ (∀ x ∈ ys, GoodEv x) ∧ xs.length ≤ 10000 ∧ ys.length ≤ 10000 ∧ q (.bl (subB xs ys)) h) := propext ⟨fun ⟨_, _, e1, z⟩ => by cases e1; exact z, fun z => ⟨_, _, rfl, z⟩⟩
theorem ev_da {x : MV} (g : GoodEv x) : Da x := (ev_dt g).da
theorem subB_cons {x y : MV} {xs ys : List MV} : subB (x :: xs) (y :: ys) = if eqP x y = true then subB xs ys else subB (x :: xs) ys := by rw [subB]
theorem subB_nil {xs : List MV} : subB xs [] = decide (xs = []) := by cases xs <;> simp [subB]
theorem f_Wle (t : Txt K mg own) : Me P w K mg base 1 (cAt own 0) "__le__" (S_Wle (cAt own 0)) := by
  have nd : ((["self", "other", "spot", "event"] : List Str)).Nodup := by decide +kernel
  refine t.d_Weaving___le__.me (N := (["self", "other", "spot", "event"] : List Str)) t.c_Weaving sc_Weaving___le__ (fun _ _ _ _ _ _ us hl => match us, hl with | [_, _], _ => rfl) (fun args h q e ⟨xs, ys, e1, _⟩ => by rw [e1]; rfl) fun f cdv A outer s H E on => ⟨_, (ss_cons (sset 2 nd se_int) (ss_cons (ss_for (passes_of rfl) rfl (si_seq (se_fld t.c_Weaving t.n_Weaving_events (sv 1))) (sg_name (i := 3) nd rfl (.inl rfl)) (ss_last (ss_if (PW.pt (sw_and (st_cmp ok_lt op_lt (sv 2) (se_callB cm_len t.b_len (by decide +kernel) (by rfl) (sa_cons (se_fld t.c_Weaving t.n_Weaving_events (sv 0)) sa_nil)) (by with_unfolding_all rfl)) (sw_and1 (st_cmp ok_eq (op_eqM (hu64 on)) (se_ixS (se_fld t.c_Weaving t.n_Weaving_events (sv 0)) (sv 2)) (sv 3) (by with_unfolding_all rfl))))) (ss_last (sset 2 nd (se_op ok_add2 op_add2 (sv 2) se_int))) ss_nil))) (ss_last (ss_ret (se_cmp ok_eq (op_eqM (hu64 on)) (sv 2) (se_callB cm_len t.b_len (by decide +kernel) (by rfl) (sa_cons (se_fld t.c_Weaving t.n_Weaving_events (sv 0)) sa_nil)) (by with_unfolding_all rfl)))))), ?_⟩
  rintro args h q e ⟨xs, ys, rfl, hx, hy, lx, ly, z⟩
  show (_ : WS) [some (W (cAt own 0) xs), some (W (cAt own 0) ys), none, none] h _
  simp
  refine for_rule (fun r ρ h' => h' = h ∧ ∃ (i : Nat) (b : Option MV), ρ = [some (W (cAt own 0) xs), some (W (cAt own 0) ys), some (.int i), b] ∧ i ≤ xs.length ∧ subB (xs.drop i) r = subB xs ys ∧ ∀ y ∈ r, GoodEv y) ⟨rfl, 0, none, rfl, Nat.zero_le _, rfl, hy⟩ (fun _ _ _ _ => by first | trivial | rfl) ?_ ?_
  · rintro y r ρ h' ⟨rfl, i, b, rfl, hi, e1, hr⟩ N hN
    simp
    by_cases c : i < xs.length
    · have ed : xs.drop i = xs[i] :: xs.drop (i + 1) := List.drop_eq_getElem_cons c
      have gx := hx xs[i] (List.getElem_mem c)
      have gy := hr y (by simp)
      rw [if_pos (by omega)]
      refine atIK_nat (by omega) (by omega) fun z ez => ?_
      have ez2 : z = xs[i] := by
        simp only [Int.toNat_natCast] at ez
        rw [List.getElem?_eq_getElem c] at ez
        cases ez
        rfl
      subst ez2
      simp [bEq_da, ev_da gx, ev_da gy]
      rw [ed, subB_cons] at e1
      split
      · rename_i q1
        rw [if_pos q1] at e1
        exact hN _ _ ⟨rfl, i + 1, _, rfl, c, e1, fun z m => hr z (by simp [m])⟩
      · rename_i q1
        rw [if_neg q1, ← ed] at e1
        exact hN _ _ ⟨rfl, i, _, rfl, hi, e1, fun z m => hr z (by simp [m])⟩
    · rw [if_neg (by omega)]
      have e0 : xs.drop i = [] := List.drop_eq_nil_of_le (by omega)
      refine hN _ _ ⟨rfl, i, _, rfl, hi, ?_, fun z m => hr z (by simp [m])⟩
      rw [e0] at e1 ⊢
      rw [← e1]
      simp [subB]
  · rintro ρ h' ⟨rfl, i, b, rfl, hi, e1, _⟩
    simp
    have : decide ((i : Int) = xs.length) = subB xs ys := by
      rw [← e1, subB_nil]
      congr 1
      rw [List.drop_eq_nil_iff]
      apply propext
      omega
    rw [this]
    exact QV.wk_i z
end MM
end
section
namespace MM
open PySem PySem.Spec PyProof.Rows L2
variable {P : Program} {w : World} {K : PySem.W.Frag} {mg : Str → Option Value} {base : Heap} {own : List Addr}
def firsts : List Int → List MV → List Int
  | acc, [] => acc
  | acc, x :: r => match upOf x with
    | some u => firsts (if u ∈ acc then acc else acc ++ [u]) r
    | none => firsts acc r
def reN (ns : List Int) : MV → MV
  | .tup (k :: .int u :: r) => .tup (k :: .int (ns.idxOf u : Nat) :: r)
  | x => x
theorem cut_2 {a b : MV} {r : List MV} : cutM (a :: b :: r) (some 2) none = r := by
  have e : HT.sIx (a :: b :: r).length 0 (some 2) = 2 := by simp [HT.sIx]
  unfold cutM
  rw [e]
  simp [HT.sIx]
/-- the names as a dict: each with its place -/
def dictOf (acc : List Int) : List (Key × MV) := acc.zipIdx.map fun p => (.inl p.1, .int (p.2 : Nat))
theorem zip_val {u : Int} : ∀ {acc : List Int} {n : Nat}, valM ((acc.zipIdx n).map fun p => (((.inl p.1 : Key)), MV.int (p.2 : Nat))) (.inl u) = if u ∈ acc then some (.int ((n + acc.idxOf u : Nat) : Int)) else none
  | [], n => by simp [valM]
  | a :: l, n => by
    have ih := zip_val (u := u) (acc := l) (n := n + 1)
    by_cases q : a = u
    · subst q
      simp [valM]
    · have q2 : ¬ u = a := fun z => q z.symm
      have e : valM (((a :: l).zipIdx n).map fun p => (((.inl p.1 : Key)), MV.int (p.2 : Nat))) (.inl u) = valM ((l.zipIdx (n + 1)).map fun p => (((.inl p.1 : Key)), MV.int (p.2 : Nat))) (.inl u) := by
        simp [valM, q]
      rw [e, ih, List.idxOf_cons]
      have q3 : (a == u) = false := by simp [q]
      simp only [List.mem_cons, q2, false_or, q3, cond_false]
      split
      · congr 3
        omega
      · rfl
theorem dict_val {acc : List Int} {u : Int} : valM (dictOf acc) (.inl u) = if u ∈ acc then some (.int (acc.idxOf u : Nat)) else none := by
  have := zip_val (u := u) (acc := acc) (n := 0)
  rw [Nat.zero_add] at this
  exact this
theorem dict_put {acc : List Int} {u : Int} (h : u ∉ acc) : putKM (dictOf acc) (.inl u) (.int (acc.length : Nat)) = dictOf (acc ++ [u]) := by
  unfold putKM dictOf
  have e : ((acc.zipIdx.map fun p => (((.inl p.1 : Key)), MV.int (p.2 : Nat))).any fun kv => decide (kv.1 = .inl u)) = false := by
    rw [List.any_eq_false]
    intro x m
    obtain ⟨⟨a, i⟩, m2, rfl⟩ := List.mem_map.mp m
    have : a ∈ acc := List.fst_mem_of_mem_zipIdx m2
    simp
    intro z
    subst z
    exact h this
  rw [if_neg (by rw [e]; simp), List.zipIdx_append, List.map_append]
  simp
/-- the events given anew in one go -/
theorem firsts_pre : ∀ (r : List MV) (acc : List Int), ∃ l, firsts acc r = acc ++ l
  | [], acc => ⟨[], by simp [firsts]⟩
  | x :: r, acc => by
    unfold firsts
    split
    · rename_i u e
      split
      · exact firsts_pre r acc
      · obtain ⟨l, h⟩ := firsts_pre r (acc ++ [u])
        exact ⟨u :: l, by rw [h]; simp⟩
    · exact firsts_pre r acc
theorem firsts_len : ∀ (acc : List Int) (r : List MV), (firsts acc r).length ≤ acc.length + r.length
  | acc, [] => by simp [firsts]
  | acc, x :: r => by
    unfold firsts
    split
    · split
      · have := firsts_len acc r
        simp; omega
      · rename_i u e _
        have := firsts_len (acc ++ [u]) r
        simp at this ⊢; omega
    · have := firsts_len acc r
      simp; omega
theorem reN_good {ns : List Int} {x : MV} (g : GoodEv x) (hl : ns.length ≤ 10000) : GoodEv (reN ns x) := by
  have hn : ∀ u, Num ((ns.idxOf u : Nat) : Int) := fun u => ⟨by omega, by
    have := List.idxOf_le_length (l := ns) (a := u)
    omega⟩
  rcases g with ⟨k, hk, rfl⟩ | ⟨k, u, hk, hu, rfl⟩ | ⟨u, p, v, hu, hp, hp3, hv, hv2, rfl⟩
  · exact .inl ⟨k, hk, rfl⟩
  · exact .inr (.inl ⟨k, _, hk, hn u, rfl⟩)
  · exact .inr (.inr ⟨_, p, v, hn u, hp, hp3, hv, hv2, rfl⟩)
def S_Wren (C : Addr) : Spec := fun args h q _ => ∃ xs, args = [W C xs] ∧ (∀ x ∈ xs, GoodEv x) ∧ xs.length ≤ 10000 ∧ q (W C (xs.map (reN (firsts [] xs)))) h
@[simp ↓] theorem S_Wren_s {C : Addr} {xs : List MV} {h : MH} {q : QV} {e : QX} : S_Wren C [W C xs] h q e = ((∀ x ∈ xs, GoodEv x) ∧ xs.length ≤ 10000 ∧ q (W C (xs.map (reN (firsts [] xs)))) h) := propext ⟨fun ⟨_, e1, z⟩ => by cases e1; exact z, fun z => ⟨_, rfl, z⟩⟩
theorem f_Wren (t : Txt K mg own) (C_Weaving1 : Cl P w K mg base 5 "Weaving" (cAt own 0) (S_WeavingS (cAt own 0))) : Me P w K mg base 6 (cAt own 0) "renumbered" (S_Wren (cAt own 0)) := by
  have nd : ((["self", "event", "names", "events"] : List Str)).Nodup := by decide +kernel
  refine t.d_Weaving_renumbered.me (N := (["self", "event", "names", "events"] : List Str)) t.c_Weaving sc_Weaving_renumbered (fun _ _ _ _ _ _ us hl => match us, hl with | [_], _ => rfl) (fun args h q e ⟨xs, e1, _⟩ => by rw [e1]; rfl) fun f cdv A outer s H E on => ⟨_, (ss_cons (ss_par2 2 3 rfl nd (sa_cons se_dnew (sa_cons (se_lst sa_nil) sa_nil)) (by rfl)) (ss_cons (ss_for (passes_of rfl) rfl (si_seq (se_fld t.c_Weaving t.n_Weaving_events (sv 0))) (sg_name (i := 1) nd rfl (.inl rfl)) (ss_cons (ss_if (st_cmp ok_gt op_gt (se_callB cm_len t.b_len (by decide +kernel) (by rfl) (sa_cons (sv 1) sa_nil)) se_int (by with_unfolding_all rfl)) (ss_cons (ss_expr (se_dset (sv 2) (se_ix (sv 1) se_int) (se_callB cm_lenD t.b_len (by decide +kernel) (by rfl) (sa_cons (sv 2) sa_nil)))) (ss_last (sset 1 nd (se_tup (sa_cons (se_ix (sv 1) se_int) (sa_cons (se_get (hu1 on) (sv 2) (se_ix (sv 1) se_int)) (sa_star (se_fz (se_slice (sv 1) (so_some se_int) so_none)) sa_nil))))))) ss_nil) (ss_last (ss_expr (se_bm ok_append PySem.F.plainAttrs_list PySem.F.slot_list_append PySem.F.type_list_append mt_append (sv 3) (sa_cons (sv 1) sa_nil)))))) (ss_last (ss_ret (se_cl C_Weaving1 on (sa_cons (sv 3) sa_nil)))))), ?_⟩
  rintro args h q e ⟨xs, rfl, gx, hl, z⟩
  show (_ : WS) [some (W (cAt own 0) xs), none, none, none] h _
  have hs : 10000 < sizeLine := by decide
  have s1 : 1 ≤ sizeLine := by decide
  simp
  intro p2 np2
  simp
  intro p3 np3
  obtain ⟨n32, n30⟩ := MH.put_none.mp np3
  have n23 : p2 ≠ p3 := fun z => n32 z.symm
  simp
  refine for_rule (fun r ρ h' => ∃ (acc : List Int) (dn : List MV) (a : Option MV), ρ = [some (W (cAt own 0) xs), a, some (.ref p2), some (.ref p3)] ∧ h' = (h.put p2 (.dK (dictOf acc))).put p3 (.lst dn) ∧ (∀ x ∈ r, x ∈ xs) ∧ firsts [] xs = firsts acc r ∧ dn ++ r.map (reN (firsts [] xs)) = xs.map (reN (firsts [] xs)) ∧ dn.length + r.length ≤ xs.length ∧ acc.length + r.length ≤ xs.length) ?_ ?_ ?_ ?_
  · exact ⟨[], [], none, rfl, rfl, fun _ m => m, rfl, rfl, by simp, by simp⟩
  · exact fun _ _ _ _ => rfl
  · rintro x r ρ h' ⟨acc, dn, a, rfl, rfl, hm, hf, hd, hl2, hl3⟩ N hN
    have hl4 : dn.length < sizeLine := by simp at hl2; omega
    rcases good_up (gx x (hm x (by simp))) with ⟨k, rfl, e1⟩ | ⟨k, u, r', rfl, e1, hu, hr⟩
    · simp [hl4, MH.put_put]
      refine hN _ _ ⟨acc, dn ++ [.tup [k]], _, rfl, rfl, fun y m => hm y (by simp [m]), ?_, ?_, by simp at hl2 ⊢; omega, by simp at hl3; omega⟩
      · rw [hf]; simp [firsts, e1]
      · rw [← hd]; simp [reN]
    · have dl : (dictOf acc).length = acc.length := by simp [dictOf]
      have hl5 : acc.length < sizeLine := by simp at hl3; omega
      simp [n23, hl4, MH.put_put, MH.put3, cut_2, dict_val, dl, hl5]
      rw [if_pos (by omega)]
      have key : ∀ acc2 : List Int, u ∈ acc2 → firsts [] xs = firsts acc2 r → (firsts [] xs).idxOf u = acc2.idxOf u := fun acc2 h2 h3 => by
        obtain ⟨l, e2⟩ := firsts_pre r acc2
        rw [h3, e2, List.idxOf_append, if_pos h2]
      refine ⟨fun hmu => ?_, fun hmu => ?_⟩
      · rw [← kGet_L, dict_val, if_pos hmu]
        have hf2 : firsts [] xs = firsts acc r := by rw [hf]; simp [firsts, e1, hmu]
        have kk := key acc hmu hf2
        simp [cut_2, hl4, MH.put_put]
        refine ⟨by omega, ?_⟩
        refine hN _ _ ⟨acc, dn ++ [.tup (k :: .int (acc.idxOf u : Nat) :: r')], _, rfl, rfl, fun y m => hm y (by simp [m]), hf2, ?_, by simp at hl2 ⊢; omega, by simp at hl3; omega⟩
        rw [← hd]
        simp [reN, kk]
      · rw [← kGet_L, dict_put hmu, dict_val, if_pos (by simp)]
        have hf2 : firsts [] xs = firsts (acc ++ [u]) r := by rw [hf]; simp [firsts, e1, hmu]
        have kk := key (acc ++ [u]) (by simp) hf2
        have n23' : p3 ≠ p2 := n32
        rw [MH.put3 n23']
        simp [cut_2, hl4, MH.put_put]
        refine ⟨by omega, ?_⟩
        refine hN _ _ ⟨acc ++ [u], dn ++ [.tup (k :: .int ((acc ++ [u]).idxOf u : Nat) :: r')], _, rfl, rfl, fun y m => hm y (by simp [m]), hf2, ?_, by simp at hl2 ⊢; omega, by simp at hl3 ⊢; omega⟩
        rw [← hd]
        simp [reN, kk]
  · rintro ρ h' ⟨acc, dn, a, rfl, rfl, _, hf, hd, hl2, _⟩
    simp only [List.map_nil, List.append_nil] at hd
    simp
    have gd : ∀ x ∈ dn, GoodEv x := by
      rw [hd]
      intro x m
      obtain ⟨y, hy, rfl⟩ := List.mem_map.mp m
      exact reN_good (gx y hy) (Nat.le_trans (firsts_len [] xs) (by simp; omega))
    refine ⟨gd, by simp at hl2; omega, ?_⟩
    rw [hd]
    exact ⟨h, (MH.le_put np2).put n30, z⟩
end MM
end
section
namespace MM
open PySem PySem.Spec PyProof.Rows L2
variable {P : Program} {w : World} {K : PySem.W.Frag} {mg : Str → Option Value} {base : Heap} {own : List Addr}
def S_Wlt (C : Addr) : Spec := fun args h q _ => ∃ xs ys : List MV, args = [W C xs, W C ys] ∧ (∀ x ∈ xs, GoodEv x) ∧ (∀ x ∈ ys, GoodEv x) ∧ xs.length ≤ 10000 ∧ ys.length ≤ 10000 ∧ q (.bl (subB xs ys && !eqP (.tup xs) (.tup ys))) h
@[simp ↓] theorem S_Wlt_s {C : Addr} {xs ys : List MV} {h : MH} {q : QV} {e : QX} : S_Wlt C [W C xs, W C ys] h q e = ((∀ x ∈ xs, GoodEv x) ∧ (∀ x ∈ ys, GoodEv x) ∧ xs.length ≤ 10000 ∧ ys.length ≤ 10000 ∧ q (.bl (subB xs ys && !eqP (.tup xs) (.tup ys))) h) := propext ⟨fun ⟨_, _, e1, z⟩ => by cases e1; exact z, fun z => ⟨_, _, rfl, z⟩⟩
theorem f_Wlt (t : Txt K mg own) (O_le : CmO P w K mg base 1 (cAt own 0) own .LtE (S_Wle (cAt own 0))) : Me P w K mg base 2 (cAt own 0) "__lt__" (S_Wlt (cAt own 0)) := by
  have nd : ((["self", "other"] : List Str)).Nodup := by decide +kernel
  refine t.d_Weaving___lt__.me (N := (["self", "other"] : List Str)) t.c_Weaving sc_Weaving___lt__ (fun _ _ _ _ _ _ us hl => match us, hl with | [_, _], _ => rfl) (fun args h q e ⟨xs, ys, e1, _⟩ => by rw [e1]; rfl) fun f cdv A outer s H E on => ⟨_, (ss_last (ss_ret (se_and (se_cmO O_le on (sv 0) (sv 1)) (se_one (se_cmp ok_ne (op_neM (hu64 on)) (se_fld t.c_Weaving t.n_Weaving_events (sv 0)) (se_fld t.c_Weaving t.n_Weaving_events (sv 1)) (by with_unfolding_all rfl)))))), ?_⟩
  rintro args h q e ⟨xs, ys, rfl, hx, hy, lx, ly, z⟩
  show (_ : WS) [some (W (cAt own 0) xs), some (W (cAt own 0) ys)] h _
  simp [t.in_Weaving, bEq_da, evs_da hx lx, evs_da hy ly]
  refine ⟨hx, hy, lx, ly, ?_⟩
  split
  · rename_i q1
    rw [q1] at z
    exact QV.wk_i (by simpa using z)
  · rename_i q1
    have q1 : subB xs ys = false := by simpa using q1
    rw [q1] at z
    exact QV.wk_i (by simpa using z)
end MM
end
section
namespace MM
open PySem PySem.Spec PyProof.Rows L2
variable {P : Program} {w : World} {K : PySem.W.Frag} {mg : Str → Option Value} {base : Heap} {own : List Addr}
def S_Wgt (C : Addr) : Spec := fun args h q _ => ∃ xs ys : List MV, args = [W C xs, W C ys] ∧ (∀ x ∈ xs, GoodEv x) ∧ (∀ x ∈ ys, GoodEv x) ∧ xs.length ≤ 10000 ∧ ys.length ≤ 10000 ∧ q (.bl (subB ys xs && !eqP (.tup ys) (.tup xs))) h
@[simp ↓] theorem S_Wgt_s {C : Addr} {xs ys : List MV} {h : MH} {q : QV} {e : QX} : S_Wgt C [W C xs, W C ys] h q e = ((∀ x ∈ xs, GoodEv x) ∧ (∀ x ∈ ys, GoodEv x) ∧ xs.length ≤ 10000 ∧ ys.length ≤ 10000 ∧ q (.bl (subB ys xs && !eqP (.tup ys) (.tup xs))) h) := propext ⟨fun ⟨_, _, e1, z⟩ => by cases e1; exact z, fun z => ⟨_, _, rfl, z⟩⟩
theorem f_Wgt (t : Txt K mg own) (O_lt : CmO P w K mg base 2 (cAt own 0) own .Lt (S_Wlt (cAt own 0))) : Me P w K mg base 3 (cAt own 0) "__gt__" (S_Wgt (cAt own 0)) := by
  have nd : ((["self", "other"] : List Str)).Nodup := by decide +kernel
  refine t.d_Weaving___gt__.me (N := (["self", "other"] : List Str)) t.c_Weaving sc_Weaving___gt__ (fun _ _ _ _ _ _ us hl => match us, hl with | [_, _], _ => rfl) (fun args h q e ⟨xs, ys, e1, _⟩ => by rw [e1]; rfl) fun f cdv A outer s H E on => ⟨_, (ss_last (ss_ret (se_cmO O_lt on (sv 1) (sv 0)))), ?_⟩
  rintro args h q e ⟨xs, ys, rfl, hx, hy, lx, ly, z⟩
  show (_ : WS) [some (W (cAt own 0) xs), some (W (cAt own 0) ys)] h _
  simp [t.in_Weaving]
  exact ⟨hy, hx, ly, lx, QV.wk_i z⟩
end MM
end
section
namespace MM
open PySem PySem.Spec PyProof.Rows L2
variable {P : Program} {w : World} {K : PySem.W.Frag} {mg : Str → Option Value} {base : Heap} {own : List Addr}
/-! ### the text of events, read again -/
theorem numL_head (n : Nat) (h : 10 ≤ n) : (TL.numL n)[0]? ≠ some 48 := by
  induction n using Nat.strongRecOn with | _ n ih =>
    rw [TL.numL_step h]
    have ne := List.length_pos_iff.mpr (TL.numL_ne (n / 10))
    rw [List.getElem?_append_left ne]
    by_cases c : n / 10 < 10
    · rw [TL.numL_lt c]
      simp
      omega
    · exact ih (n / 10) (by omega) (by omega)
theorem numM_num {i : Int} (h0 : 0 ≤ i) (h1 : i ≤ 1000000000) : numM (Str.ofString (toString i)) = .int i := by
  rcases Int.eq_ofNat_of_zero_le h0 with ⟨n, rfl⟩
  have e1 : (Str.ofString (toString ((n : Nat) : Int))).cps.toList = TL.numL n := TL.tl_num n
  have l1 : (Str.ofString (toString ((n : Nat) : Int))).length = (TL.numL n).length := by rw [TL.len_tl, TL.tl_num]
  have l2 : (TL.numL n).length ≤ 10 := TL.numL_len (by decide) (by omega)
  have l3 := List.length_pos_iff.mpr (TL.numL_ne n)
  unfold numM numT
  rw [if_pos, PySem.W.KIN.num_reads h0 (by omega)]
  refine ⟨by omega, by omega, ?_, ?_⟩
  · rw [e1]
    refine List.all_eq_true.mpr fun c hc => ?_
    have := TL.numL_digits n c hc
    simp [figB]
    omega
  · rw [e1]
    rintro ⟨a, b⟩
    by_cases c : n < 10
    · rw [l1, TL.numL_lt c] at a
      simp at a
    · exact numL_head n (by omega) b
theorem word_sign {x y : MV} (g : GoodEv x) {xs : List MV} (e : x = .tup xs) (m : y ∈ xs) : ∀ c ∈ TL.tl (txtP y), (48 ≤ c ∧ c ≤ 57) ∨ (97 ≤ c ∧ c ≤ 122) := by
  have nu : ∀ i : Int, 0 ≤ i → ∀ c ∈ TL.tl (Str.ofString (toString i)), (48 ≤ c ∧ c ≤ 57) ∨ (97 ≤ c ∧ c ≤ 122) := fun i h0 c hc => by
    rcases Int.eq_ofNat_of_zero_le h0 with ⟨n, rfl⟩
    rw [TL.tl_num] at hc
    exact .inl (TL.numL_digits n c hc)
  have ki : ∀ k ∈ (["open", "close", "drop", "sweep", "work", "age", "erase", "fall", "put"] : List Str), ∀ c ∈ TL.tl k, 97 ≤ c ∧ c ≤ 122 := by decide +kernel
  have kk : ∀ k ∈ (["open", "close", "drop", "sweep", "work", "age", "erase", "fall", "put"] : List Str), ∀ c ∈ TL.tl k, (48 ≤ c ∧ c ≤ 57) ∨ (97 ≤ c ∧ c ≤ 122) := fun k hk c hc => .inr (ki k hk c hc)
  rcases g with ⟨k, hk, rfl⟩ | ⟨k, u, hk, hu, rfl⟩ | ⟨u, p, v, hu, hp, hp3, hv, hv2, rfl⟩
  · cases e
    simp only [List.mem_cons, List.mem_nil_iff, or_false] at m
    subst m
    refine kk k ?_
    simp only [List.mem_cons, List.mem_nil_iff, or_false] at hk ⊢
    rcases hk with rfl | rfl <;> simp
  · cases e
    simp only [List.mem_cons, List.mem_nil_iff, or_false] at m
    rcases m with rfl | rfl
    · refine kk k ?_
      simp only [List.mem_cons, List.mem_nil_iff, or_false] at hk ⊢
      rcases hk with rfl | rfl | rfl | rfl | rfl | rfl <;> simp
    · exact nu u hu.1
  · cases e
    simp only [List.mem_cons, List.mem_nil_iff, or_false] at m
    rcases m with rfl | rfl | rfl | rfl
    · exact kk "put" (by simp)
    · exact nu u hu.1
    · exact nu p hp
    · exact nu v (by omega)
theorem good_evB {x : MV} (g : GoodEv x) : evB x = true := by
  rcases g with ⟨k, hk, rfl⟩ | ⟨k, u, hk, hu, rfl⟩ | ⟨u, p, v, hu, hp, hp3, hv, hv2, rfl⟩
  · simp only [List.mem_cons, List.mem_nil_iff, or_false] at hk
    rcases hk with rfl | rfl <;> decide +kernel
  · simp only [List.mem_cons, List.mem_nil_iff, or_false] at hk
    rcases hk with rfl | rfl | rfl | rfl | rfl | rfl <;> simp [evB, kindL, natB, hu.1]
  · simp [evB, kindL, natB, hu.1, hp, putB, hp3, hv]; omega
theorem evT_txt {x : MV} (g : GoodEv x) : evT (txtE x) = x := by
  obtain ⟨xs, rfl, lx, hx⟩ := ev_parts g
  have ne : xs ≠ [] := by
    rintro rfl
    rcases g with ⟨k, hk, e⟩ | ⟨k, u, hk, hu, e⟩ | ⟨u, p, v, hu, hp, hp3, hv, hv2, e⟩ <;> cases e
  have sp : Txt.split (txtE (.tup xs)) " " = xs.map txtP := by
    refine TL.split_join (s := 32) (S := []) (by decide +kernel) (by decide +kernel) (by simpa using ne) fun p hp => ?_
    obtain ⟨y, my, rfl⟩ := List.mem_map.mp hp
    intro hc
    have := word_sign g rfl my 32 hc
    omega
  have eb := good_evB g
  have key : evOfW (xs.map txtP) = .tup xs := by
    rcases g with ⟨k, hk, e⟩ | ⟨k, u, hk, hu, e⟩ | ⟨u, p, v, hu, hp, hp3, hv, hv2, e⟩
    · cases e
      rfl
    · cases e
      show MV.tup [.str k, numM (Str.ofString (toString u))] = _
      rw [numM_num hu.1 hu.2]
    · cases e
      show MV.tup [_, numM (Str.ofString (toString u)), numM (Str.ofString (toString p)), numM (Str.ofString (toString v))] = _
      rw [numM_num hu.1 hu.2, numM_num hp (by omega), numM_num (by omega) hv2]
      rfl
  unfold evT
  rw [sp, key]
  simp only [eb, if_true]
theorem parts_txt {xs : List MV} (g : ∀ x ∈ xs, GoodEv x) : partsT (txtW xs) = xs.map txtE := by
  by_cases ne : xs = []
  · subst ne
    have : txtW [] = "" := join_nil
    rw [this]
    rfl
  have sp : Txt.split (txtW xs) "; " = xs.map txtE := by
    refine TL.split_join (s := 59) (S := [32]) (by decide +kernel) (by decide +kernel) (by simpa using ne) fun p hp => ?_
    obtain ⟨y, my, rfl⟩ := List.mem_map.mp hp
    obtain ⟨ys, rfl, _, _⟩ := ev_parts (g y my)
    intro hc
    have hc : 59 ∈ TL.tl (Txt.join " " (ys.map txtP)) := hc
    rw [TL.join_eq, TL.tl_join] at hc
    rcases joinL_mem hc with hc | ⟨p, m, hc⟩
    · exact absurd hc (by decide +kernel)
    · obtain ⟨z, hz, rfl⟩ := List.mem_map.mp m
      obtain ⟨w, hw, rfl⟩ := List.mem_map.mp hz
      have := word_sign (g _ my) rfl hw 59 hc
      omega
  unfold partsT
  rw [if_neg, sp]
  intro e
  rw [e] at sp
  have e1 : Txt.split "" "; " = ([""] : List Str) := by decide +kernel
  rw [e1] at sp
  match xs, ne, sp, g with
  | [x], _, sp, g =>
    have : txtE x = "" := by simpa using sp.symm
    have e2 := evT_txt (g x (by simp))
    rw [this] at e2
    have e3 : evB (evT "") = false := by decide +kernel
    rw [e2, good_evB (g x (by simp))] at e3
    cases e3
  | _ :: _ :: _, _, sp, _ => simp at sp
theorem read_txt {xs : List MV} (g : ∀ x ∈ xs, GoodEv x) : badT (txtW xs) = none ∧ (partsT (txtW xs)).map evT = xs := by
  have e : (xs.map txtE).map evT = xs := by
    rw [List.map_map]
    refine (List.map_congr_left fun x m => ?_).trans (List.map_id xs)
    exact evT_txt (g x m)
  unfold badT
  rw [parts_txt g]
  refine ⟨List.findIdx?_eq_none_iff.mpr fun y m => ?_, e⟩
  obtain ⟨x, mx, rfl⟩ := List.mem_map.mp m
  rw [evT_txt (g x mx), good_evB (g x mx)]
  rfl
theorem asc_txt {xs : List MV} (g : ∀ x ∈ xs, GoodEv x) : asc (txtW xs) = true := by
  refine asc_join (by decide +kernel) fun z m => ?_
  obtain ⟨x, mx, rfl⟩ := List.mem_map.mp m
  have gx := g x mx
  obtain ⟨ys, rfl, _, _⟩ := ev_parts gx
  refine asc_join (by decide +kernel) fun z m => ?_
  obtain ⟨y, my, rfl⟩ := List.mem_map.mp m
  refine asc_iff.mpr fun c hc => ?_
  have := word_sign gx rfl my c hc
  omega
/-! ### what is read, as data -/

theorem fm_cong {α β : Type} {f g : α → Option β} : ∀ {l : List α}, (∀ x ∈ l, f x = g x) → l.filterMap f = l.filterMap g
  | [], _ => rfl
  | a :: l, h => by
    have e := h a (by simp)
    have ih := fm_cong (l := l) fun x m => h x (by simp [m])
    simp only [List.filterMap_cons, e, ih]
theorem slT_ext {α : Type} {xs zs : List α} {lo hi st : Option Int} (h2 : cntT lo hi st xs.length = zs.length) (h3 : ∀ m : Nat, m < zs.length → xs[((adjT lo hi st xs.length).1 + (m : Int) * st.getD 1).toNat]? = zs[m]?) : slT xs lo hi st = zs := by
  unfold slT
  rw [h2]
  have e := fm_cong (l := List.range zs.length) (f := fun (m : Nat) => xs[((adjT lo hi st xs.length).1 + (m : Int) * st.getD 1).toNat]?) (g := fun m => zs[m]?) fun m hm => h3 m (List.mem_range.mp hm)
  rw [e]
  exact fm_all zs
theorem slT_take {α : Type} {xs : List α} {k : Int} (h0 : 0 ≤ k) (h1 : k ≤ xs.length) : slT xs none (some k) none = xs.take k.toNat := by
  refine slT_ext ?_ fun m hm => ?_
  · unfold cntT adjT Builtin.Slice.slicePlaces Builtin.Slice.sliceAdjust
    simp only [List.length_take, Option.getD_none]
    simp
    split <;> split <;> omega
  · unfold adjT Builtin.Slice.sliceAdjust
    simp only [List.length_take] at hm
    simp
    rw [List.getElem?_take, if_pos (by omega)]
theorem slT_drop {α : Type} {xs : List α} {k : Int} (h0 : 0 ≤ k) (h1 : k ≤ xs.length) : slT xs (some k) none none = xs.drop k.toNat := by
  refine slT_ext ?_ fun m hm => ?_
  · unfold cntT adjT Builtin.Slice.slicePlaces Builtin.Slice.sliceAdjust
    simp only [List.length_drop, Option.getD_none]
    simp
    split <;> split <;> omega
  · unfold adjT Builtin.Slice.sliceAdjust
    simp only [List.length_drop] at hm
    simp
    congr 1
    split <;> omega
theorem slT_one {α : Type} {xs : List α} {k : Nat} (h : k < xs.length) : slT xs (some (k : Int)) (some ((k : Int) + 1)) none = [xs[k]] := by
  refine slT_ext ?_ fun m hm => ?_
  · unfold cntT adjT Builtin.Slice.slicePlaces Builtin.Slice.sliceAdjust
    simp only [Option.getD_none, List.length_singleton]
    simp
    split <;> split <;> split <;> omega
  · unfold adjT Builtin.Slice.sliceAdjust
    have : m = 0 := by simpa using hm
    subst this
    simp
    rw [← List.getElem?_eq_getElem h]
    congr 1
    split <;> omega
theorem slT_rev {α : Type} {xs : List α} : slT xs none none (some (-1)) = xs.reverse := by
  refine slT_ext ?_ fun m hm => ?_
  · unfold cntT adjT Builtin.Slice.slicePlaces Builtin.Slice.sliceAdjust
    simp
    omega
  · unfold adjT Builtin.Slice.sliceAdjust
    simp only [List.length_reverse] at hm
    rw [List.getElem?_reverse hm]
    simp
    congr 1
    omega
/-- every second one -/
def ev2 {α : Type} : List α → List α
  | x :: _ :: r => x :: ev2 r
  | xs => xs
theorem ev2_sub {α : Type} : ∀ xs : List α, (ev2 xs).Sublist xs
  | [] => List.Sublist.refl _
  | [_] => List.Sublist.refl _
  | x :: y :: r => by
    rw [ev2]
    exact ((ev2_sub r).cons y).cons_cons x
theorem ev2_len {α : Type} : ∀ xs : List α, (ev2 xs).length = (xs.length + 1) / 2
  | [] => by simp [ev2]
  | [_] => by simp [ev2]
  | x :: y :: r => by
    rw [ev2]
    have := ev2_len r
    simp only [List.length_cons, this]
    omega
theorem ev2_get {α : Type} : ∀ (xs : List α) (m : Nat), (ev2 xs)[m]? = xs[2 * m]?
  | [], m => by simp [ev2]
  | [x], 0 => rfl
  | [x], m + 1 => by simp [ev2, Nat.mul_add]
  | x :: y :: r, 0 => rfl
  | x :: y :: r, m + 1 => by
    rw [ev2, show 2 * (m + 1) = 2 * m + 1 + 1 by omega]
    dsimp only [List.getElem?_cons_succ]
    exact ev2_get r m
theorem slT_ev {α : Type} {xs : List α} : slT xs none none (some 2) = ev2 xs := by
  refine slT_ext ?_ fun m hm => ?_
  · rw [ev2_len]
    unfold cntT adjT Builtin.Slice.slicePlaces Builtin.Slice.sliceAdjust
    simp
    split <;> omega
  · unfold adjT Builtin.Slice.sliceAdjust
    rw [ev2_get]
    simp
    congr 1
    omega
theorem slT_ev2 {α : Type} {xs : List α} : slT (ev2 xs) (some 1) none none = slT xs (some 2) none (some 2) := by
  rcases Nat.eq_zero_or_pos xs.length with h0 | h0
  · have : xs = [] := List.length_eq_zero_iff.mp h0
    subst this
    rfl
  · rw [slT_drop (k := 1) (by omega) (by rw [ev2_len]; omega)]
    symm
    refine slT_ext ?_ fun m hm => ?_
    · rw [show (1 : Int).toNat = 1 from rfl, List.length_drop, ev2_len]
      unfold cntT adjT Builtin.Slice.slicePlaces Builtin.Slice.sliceAdjust
      simp
      repeat' split
      all_goals omega
    · rw [show (1 : Int).toNat = 1 from rfl] at hm ⊢
      rw [List.length_drop, ev2_len] at hm
      unfold adjT Builtin.Slice.sliceAdjust
      rw [List.getElem?_drop, ev2_get]
      simp
      congr 1
      omega

theorem txtW_len {xs : List MV} (g : ∀ x ∈ xs, GoodEv x) (l : xs.length ≤ 30) : (txtW xs).length ≤ 9000 := by
  have h1 := join_le (a := "; ") (zs := xs.map txtE) (m := 56) fun z m => by
    obtain ⟨x, mx, rfl⟩ := List.mem_map.mp m
    obtain ⟨ys, rfl, ly, hy⟩ := ev_parts (g x mx)
    have := join_le (a := " ") (zs := ys.map txtP) (m := 13) fun z m => by
      obtain ⟨y, my, rfl⟩ := List.mem_map.mp m
      rcases hy y my with ⟨z, rfl, l⟩ | ⟨i, rfl, h0, h1⟩
      · exact Nat.le_trans l (by decide)
      · have := int_text_length_le10 (a := i) (k := 11) (by decide) (by omega)
        change (Str.ofString (toString i)).length ≤ 13
        rw [PySem.ofString_length]
        omega
    have e1 : (Str.ofString " ").length = 1 := by decide +kernel
    rw [e1, List.length_map] at this
    show (Txt.join " " (ys.map txtP)).length ≤ 56
    omega
  have e1 : (Str.ofString "; ").length = 2 := by decide +kernel
  rw [e1, List.length_map] at h1
  show (Txt.join "; " (xs.map txtE)).length ≤ 9000
  omega
/-! ### strictly growing lists with the same numbers -/
theorem pw_eq : ∀ {xs ys : List Int}, xs.Pairwise (· < ·) → ys.Pairwise (· < ·) → (∀ k, k ∈ xs ↔ k ∈ ys) → xs = ys
  | [], [], _, _, _ => rfl
  | [], y :: ys, _, _, h => absurd ((h y).mpr (by simp)) (by simp)
  | x :: xs, [], _, _, h => absurd ((h x).mp (by simp)) (by simp)
  | x :: xs, y :: ys, hx, hy, h => by
    obtain ⟨x1, x2⟩ := List.pairwise_cons.mp hx
    obtain ⟨y1, y2⟩ := List.pairwise_cons.mp hy
    have e : x = y := by
      have a := (h x).mp (by simp)
      have b := (h y).mpr (by simp)
      rcases List.mem_cons.mp a with a | a
      · exact a
      · rcases List.mem_cons.mp b with b | b
        · exact b.symm
        · have := y1 x a
          have := x1 y b
          omega
    subst e
    rw [pw_eq x2 y2 fun k => ⟨fun m => ?_, fun m => ?_⟩]
    · rcases List.mem_cons.mp ((h k).mp (List.mem_cons_of_mem _ m)) with a | a
      · subst a
        exact absurd (x1 k m) (by omega)
      · exact a
    · rcases List.mem_cons.mp ((h k).mpr (List.mem_cons_of_mem _ m)) with a | a
      · subst a
        exact absurd (y1 k m) (by omega)
      · exact a
theorem ups_num {xs : List MV} (g : ∀ x ∈ xs, GoodEv x) {k : Int} (m : k ∈ ups xs) : Num k := by
  obtain ⟨x, mx, e⟩ := List.mem_filterMap.mp m
  rcases good_up (g x mx) with ⟨_, _, e2⟩ | ⟨_, u, _, _, e2, hu, _⟩
  · rw [e2] at e; cases e
  · rw [e2] at e; cases e; exact hu
theorem pw_len : ∀ {xs L : List Int}, xs.Pairwise (· < ·) → (∀ k ∈ xs, k ∈ L) → xs.length ≤ L.length
  | [], _, _, _ => by simp
  | x :: xs, L, h, hm => by
    obtain ⟨x1, x2⟩ := List.pairwise_cons.mp h
    have mx : x ∈ L := hm x (by simp)
    have := pw_len (L := L.erase x) x2 fun k m => by
      have := x1 k m
      exact (List.mem_erase_of_ne (by omega)).mpr (hm k (by simp [m]))
    rw [List.length_erase_of_mem mx] at this
    have := List.length_pos_of_mem mx
    simp
    omega
/-! ### numbers given anew: a part's are the whole's -/
theorem mem_firsts {u : Int} {x : MV} (e : upOf x = some u) : ∀ {xs : List MV} {acc : List Int}, (x ∈ xs ∨ u ∈ acc) → u ∈ firsts acc xs
  | [], acc, h => by
    rcases h with h | h
    · cases h
    · exact h
  | y :: r, acc, h => by
    unfold firsts
    rcases h with h | h
    · rcases List.mem_cons.mp h with h | h
      · subst h
        rw [e]
        refine mem_firsts e (.inr ?_)
        split
        · assumption
        · simp
      · split
        · exact mem_firsts e (.inl h)
        · exact mem_firsts e (.inl h)
    · split
      · refine mem_firsts e (.inr ?_)
        split
        · exact h
        · simp [h]
      · exact mem_firsts e (.inr h)
theorem firsts_app : ∀ {xs ys : List MV} {acc : List Int}, firsts acc (xs ++ ys) = firsts (firsts acc xs) ys
  | [], ys, acc => by simp [firsts]
  | x :: r, ys, acc => by
    rw [List.cons_append]
    cases e : upOf x with
    | none =>
      simp only [firsts, e]
      exact firsts_app
    | some u =>
      simp only [firsts, e]
      exact firsts_app
theorem reN_app {xs ys : List MV} (g : ∀ x ∈ xs, GoodEv x) : ((xs ++ ys).map (reN (firsts [] (xs ++ ys)))).take xs.length = xs.map (reN (firsts [] xs)) := by
  rw [List.map_append, List.take_append_of_le_length (by simp), List.take_of_length_le (by simp)]
  refine List.map_congr_left fun x m => ?_
  rcases good_up (g x m) with ⟨k, rfl, _⟩ | ⟨k, u, r, rfl, e, _, _⟩
  · rfl
  · rw [firsts_app]
    obtain ⟨l, e2⟩ := firsts_pre ys (firsts [] xs)
    rw [e2]
    have mu := mem_firsts e (acc := []) (.inl m)
    simp only [reN]
    rw [List.idxOf_append, if_pos mu]
theorem fm_none {α β : Type} : ∀ {l : List α}, l.filterMap (fun _ => (none : Option β)) = []
  | [] => rfl
  | a :: l => by rw [List.filterMap_cons]; exact fm_none
theorem body_law (t : Txt K mg own) (F__law_deal : Fn P w K mg base 1 "_law_deal" S_deal) (F__law_events : Fn P w K mg base 4 "_law_events" S_events) (F__law_draw : Fn P w K mg base 1 "_law_draw" S_draw)
    (C_Weaving1 : Cl P w K mg base 5 "Weaving" (cAt own 0) (S_WeavingS (cAt own 0))) (O_add : OpO P w K mg base 6 (cAt own 0) "add" (S_Wadd (cAt own 0))) (O_mul : OpO P w K mg base 6 (cAt own 0) "mul" (S_Wmul (cAt own 0))) (O_rmul : RmO P w K mg base 7 (cAt own 0) (S_Wmul (cAt own 0)))
    (O_le : CmO P w K mg base 1 (cAt own 0) own .LtE (S_Wle (cAt own 0))) (O_gt : CmO P w K mg base 3 (cAt own 0) own .Gt (S_Wgt (cAt own 0))) (E_Weaving : EqO P w K mg base 1 (cAt own 0) own (S_Weq (cAt own 0))) (L_Weaving : LenO P w K mg base 1 (cAt own 0) (S_Wlen (cAt own 0))) (G_Weaving : GetO P w K mg base 6 (cAt own 0) (S_Wget (cAt own 0) (er K "NoEvent")))
    (ST_Weaving : StrO P w K mg base 2 (cAt own 0) (S_Wstr (cAt own 0))) (CM_read : CmM P w K mg base 6 (cAt own 0) "read" (S_read (cAt own 0) (er K "InvalidText"))) (P_uploads : Pr P w K mg base 1 (cAt own 0) "uploads" (S_Wup (cAt own 0))) (M_renumbered : Me P w K mg base 6 (cAt own 0) "renumbered" (S_Wren (cAt own 0))) :
    BodyM P w K mg base 11 "law" s_law (["_law_script", "_law_deal_here", "_law_turn", "_law_whole", "_law_at", "_law_both", "_law_a", "_law_b", "_law_c", "_law_k", "_law_number"] : List Str) (lawS 63) := by
  have nd : ((["_law_script", "_law_deal_here", "_law_turn", "_law_whole", "_law_at", "_law_both", "_law_a", "_law_b", "_law_c", "_law_k", "_law_number"] : List Str)).Nodup := by decide +kernel
  intro f cdv A outer s H E on
  refine ⟨_, (ss_cons (sset 1 nd (se_fn F__law_deal on (sa_cons (sv 0) (sa_cons se_int sa_nil)))) (ss_cons (ss_for (passes_of rfl) rfl (si_range1 t.b_range (by rfl) (sa_cons se_int sa_nil)) (sg_name (i := 2) nd rfl (.inl rfl)) (ss_cons (ss_asg (se_fz (se_lc [("_law_k", 9)] rfl nd (si_range1 t.b_range (by rfl) (sa_cons se_int sa_nil)) (by kernel_rfl) (go_name (i := 9) (by decide)) (fun _ _ _ _ _ => pg_name (i := 9) nd rfl (.inl rfl)) (fun _ _ _ _ _ => sts_nil) (fun _ _ _ _ _ => (se_cl C_Weaving1 (On.blk on) (sa_cons (se_fn F__law_events (On.blk on) (sa_cons (sv 1) (sa_cons se_int (sa_cons se_int sa_nil)))) sa_nil))))) (sg_lst rfl (sgs_cons (i := 6) nd (sgs_cons (i := 7) nd (sgs_cons (i := 8) nd sgs_nil))))) (ss_cons (sset 3 nd (se_addO O_add on (se_addO O_add on (sv 6) (sv 7)) (sv 8))) (ss_cons (ss_if (PW.pt (sw_or (st_nes E_Weaving on (se_addO O_add on (sv 6) (se_addO O_add on (sv 7) (sv 8))) (sv 3)) (sw_or (st_nes E_Weaving on (se_rmulO O_rmul on se_int (se_addO O_add on (sv 6) (sv 7))) (se_addO O_add on (se_addO O_add on (se_addO O_add on (sv 6) (sv 7)) (sv 6)) (sv 7))) (sw_or1 (st_nes E_Weaving on (se_mulO O_mul on (se_addO O_add on (sv 6) (sv 7)) se_int) (se_addO O_add on (se_addO O_add on (sv 6) (se_mulO O_mul on (se_addO O_add on (sv 7) (sv 6)) se_int)) (sv 7))))))) (ss_last (ss_ret se_bl)) ss_nil) (ss_cons (sset 4 nd (se_fn F__law_draw on (sa_cons (sv 1) (sa_cons (se_op ok_add2 op_add2 (se_lens L_Weaving on t.b_len (sa_cons (sv 3) sa_nil)) se_int) sa_nil)))) (ss_cons (ss_if (PW.pt (sw_or (st_nes E_Weaving on (se_addO O_add on (se_getS G_Weaving on (sv 3) so_none (so_val (sv 4)) so_none) (se_getS G_Weaving on (sv 3) (so_val (sv 4)) so_none so_none)) (sv 3)) (sw_or (st_cmO O_gt on (se_getS G_Weaving on (sv 3) so_none (so_val (sv 4)) so_none) (sv 3)) (sw_or1 (st_not (st_cmO O_le on (se_getS G_Weaving on (sv 3) (so_val (sv 4)) so_none so_none) (sv 3))))))) (ss_last (ss_ret se_bl)) ss_nil) (ss_cons (sset 5 nd (se_fz (se_srtSet rfl t.b_sorted t.b_set (by rfl) (by rfl) (sa_cons (se_fz (se_lc [("_law_number", 10)] rfl nd (si_seq (se_op ok_add2 op_add2 (se_prop P_uploads on (sv 6)) (se_prop P_uploads on (sv 7)))) (by kernel_rfl) (go_name (i := 10) (by decide)) (fun _ _ _ _ _ => pg_name (i := 10) nd rfl (.inl rfl)) (fun _ _ _ _ _ => sts_nil) (fun _ _ _ _ _ => (se_callTy cm_int t.b_int (by decide +kernel) (by rfl) (sa_cons (sv 10) sa_nil))))) sa_nil)))) (ss_cons (ss_if (PW.pt (sw_or (st_cmp ok_ne (op_neM (hu64 on)) (se_prop P_uploads on (se_addO O_add on (sv 6) (sv 7))) (se_callTy cm_tuple t.b_tuple (by decide +kernel) (by rfl) (sa_cons (sv 5) sa_nil)) (by with_unfolding_all rfl)) (sw_or1 (st_cmp ok_ne (op_neM (hu64 on)) (se_prop P_uploads on (se_addO O_add on (sv 7) (sv 6))) (se_callTy cm_tuple t.b_tuple (by decide +kernel) (by rfl) (sa_cons (sv 5) sa_nil)) (by with_unfolding_all rfl))))) (ss_last (ss_ret se_bl)) ss_nil) (ss_cons (ss_if (PW.pt (sw_or (st_not (st_cmO O_le on (se_addO O_add on (sv 6) (sv 8)) (sv 3))) (sw_or (st_not (st_cmO O_le on (sv 7) (sv 3))) (sw_or (st_not (st_cmO O_le on (se_getS G_Weaving on (sv 3) so_none so_none (so_val se_int)) (sv 3))) (sw_or1 (st_nes E_Weaving on (se_getS G_Weaving on (se_getS G_Weaving on (sv 3) so_none so_none (so_val se_int)) (so_val se_int) so_none so_none) (se_getS G_Weaving on (sv 3) (so_val se_int) so_none (so_val se_int)))))))) (ss_last (ss_ret se_bl)) ss_nil) (ss_cons (ss_if (PW.pt (sw_or (PW.pt (sw_and (st_cmO O_le on (sv 6) (sv 7)) (sw_and (st_cmO O_le on (sv 7) (sv 8)) (sw_and1 (st_not (st_cmO O_le on (sv 6) (sv 8))))))) (sw_or (PW.pt (sw_and (st_cmO O_le on (sv 6) (sv 7)) (sw_and1 (st_not (st_cmO O_le on (se_addO O_add on (sv 6) (sv 8)) (se_addO O_add on (sv 7) (sv 8))))))) (sw_or1 (PW.pt (sw_and (st_cmO O_le on (sv 6) (sv 7)) (sw_and (st_cmO O_le on (sv 7) (sv 6)) (sw_and1 (st_nes E_Weaving on (sv 6) (sv 7)))))))))) (ss_last (ss_ret se_bl)) ss_nil) (ss_cons (ss_if (PW.pt (sw_or (st_nes E_Weaving on (se_cm CM_read on (se_gc t.g_Weaving) (sa_cons (se_strO ST_Weaving on t.b_str (sa_cons (sv 3) sa_nil)) sa_nil)) (sv 3)) (sw_or1 (st_nes E_Weaving on (se_getS G_Weaving on (se_getS G_Weaving on (sv 3) so_none so_none (so_val (se_op ok_sub op_sub se_int se_int))) so_none so_none (so_val (se_op ok_sub op_sub se_int se_int))) (sv 3))))) (ss_last (ss_ret se_bl)) ss_nil) (ss_cons (ss_if (st_cmp ok_ne (op_neM (hu64 on)) (se_fz (se_lc [("_law_at", 4)] rfl nd (si_range1 t.b_range (by rfl) (sa_cons (se_lens L_Weaving on t.b_len (sa_cons (sv 3) sa_nil)) sa_nil)) (by kernel_rfl) (go_name (i := 4) (by decide)) (fun _ _ _ _ _ => pg_name (i := 4) nd rfl (.inl rfl)) (fun _ _ _ _ _ => (sts_one (st_nes E_Weaving (On.blk on) (se_getS G_Weaving (On.blk on) (sv 3) (so_val (sv 4)) (so_val (se_op ok_add2 op_add2 (sv 4) se_int)) so_none) (se_cl C_Weaving1 (On.blk on) (sa_cons (se_fz (se_lst (sa_cons (se_getO G_Weaving (On.blk on) (sv 3) (sv 4)) sa_nil))) sa_nil))))) (fun _ _ _ _ _ => (sv 4)))) (se_fz (se_lst sa_nil)) (by with_unfolding_all rfl)) (ss_last (ss_ret se_bl)) ss_nil) (ss_last (ss_if (st_nes E_Weaving on (se_getS G_Weaving on (se_me0 M_renumbered on (se_addO O_add on (sv 6) (sv 7))) so_none (so_val (se_lens L_Weaving on t.b_len (sa_cons (sv 6) sa_nil))) so_none) (se_me0 M_renumbered on (sv 6))) (ss_last (ss_ret se_bl)) ss_nil)))))))))))))) (ss_last (ss_ret se_bl)))), ?_⟩
  rintro args h q e ⟨ns, rfl, rfl, hl, hb, z⟩
  show (_ : WS) [some (.lis (ns.map MV.int)), none, none, none, none, none, none, none, none, none, none] E0h _
  simp
  refine ⟨ns, rfl, hl, fun k hk => bits_log (hb k hk), fun d g nd ng => ?_⟩
  have sr : (E0h.dealt d g).src (.ref d) 100000 := by simp
  generalize E0h.dealt d g = h0 at sr
  simp
  refine for_rule (fun r ρ h' => (∃ b2 b3 b4 b5 b6 c0 c1 b7 b8, ρ = [some (.lis (ns.map MV.int)), some (.ref d), b2, b3, b4, b5, b6, c0, c1, b7, b8]) ∧ r.length ≤ 6 ∧ h'.src (.ref d) (4000 * r.length)) ?_ (fun _ _ _ _ => trivial) ?_ ?_
  · exact ⟨⟨_, _, _, _, _, _, _, _, _, rfl⟩, by simp, sr.less (by simp)⟩
  · rintro x r ρ h ⟨⟨b2, b3, b4, b5, b6, c0, c1, b7, b8, rfl⟩, hr, sr⟩ N hN
    have sr : h.src (.ref d) (4000 + 4000 * r.length) := by simpa [Nat.mul_add, Nat.add_comm] using sr
    have hr' : r.length ≤ 6 := by simp at hr; omega
    have hs : 10000 < sizeLine := by decide
    simp
    refine lc_draw (fun y => ∃ xs, y = W (cAt own 0) xs ∧ (∀ x ∈ xs, GoodEv x) ∧ xs.length ≤ 6) 600 (by simp; omega) (fun _ _ _ _ => trivial) (fun D acc x' kk m nD hk qy qn hy => ?_) (fun ys hl hr => ?_)
    · dsimp only [wipeM, List.set]
      simp at hk
      simp
      refine ⟨sr.sp (by omega), fun xs ex => ?_⟩
      have lx : xs.length ≤ 6 := ex.len
      have := hy (W (cAt own 0) xs) ⟨xs, rfl, ex.good, lx⟩
      exact ⟨ex.good, by omega, by simpa [Nat.mul_add] using this⟩
    · obtain ⟨a, b, c, rfl, ga, gb, gc, la, lb, lc⟩ : ∃ a b c, ys = [W (cAt own 0) a, W (cAt own 0) b, W (cAt own 0) c] ∧ (∀ x ∈ a, GoodEv x) ∧ (∀ x ∈ b, GoodEv x) ∧ (∀ x ∈ c, GoodEv x) ∧ a.length ≤ 6 ∧ b.length ≤ 6 ∧ c.length ≤ 6 := by
        match ys, hl, hr with
        | [y1, y2, y3], _, hr =>
          obtain ⟨a, rfl, ga, la⟩ := hr y1 (by simp)
          obtain ⟨b, rfl, gb, lb⟩ := hr y2 (by simp)
          obtain ⟨c, rfl, gc, lc⟩ := hr y3 (by simp)
          exact ⟨a, b, c, rfl, ga, gb, gc, la, lb, lc⟩
      simp [-gmLst_3]
      obtain ⟨w, hw⟩ : ∃ w, a ++ (b ++ c) = w := ⟨_, rfl⟩
      have gw : ∀ x ∈ w, GoodEv x := by rw [← hw]; exact goods_app ga (goods_app gb gc)
      have lw : w.length ≤ 18 := by rw [← hw]; simp; omega
      have sr1 : (h.sp 1800).src (.ref d) (2200 + 4000 * r.length) := sr.sp (by omega)
      generalize h.sp 1800 = h1 at sr1
      have ew : ∀ l : List MV, (∀ x ∈ l, GoodEv x) → l.length ≤ 100 → eqP (.tup l) (.tup l) = true := fun l g hl => eqP_da (evs_da g (by omega))
      have e2 := ew (a ++ (b ++ (a ++ b))) (goods_app ga (goods_app gb (goods_app ga gb))) (by simp; omega)
      have e3 := ew (a ++ (b ++ (a ++ (b ++ (a ++ b))))) (goods_app ga (goods_app gb (goods_app ga (goods_app gb (goods_app ga gb))))) (by simp; omega)
      have e1 := ew w gw (by omega)
      rw [gmLst_3]
      rw [kNx_s, nxD_nx]
      refine seq_rule (fun ρ h' => ρ = [some (.lis (ns.map MV.int)), some (.ref d), some x, some (W (cAt own 0) w), b4, b5, some (W (cAt own 0) a), some (W (cAt own 0) b), some (W (cAt own 0) c), b7, b8] ∧ h' = h1) (fun B hB => ?_) ?_
      · simp [↓List.forall_mem_append, eq_true ga, eq_true gb, eq_true gc, hw]
        and_intros
        all_goals first | omega | exact hB _ _ ⟨rfl, rfl⟩ | simp [or_imp, forall_and, eq_true ga, eq_true gb, eq_true gc]
      rintro ρ h2 ⟨rfl, rfl⟩
      refine seq_rule (fun ρ h' => ρ = [some (.lis (ns.map MV.int)), some (.ref d), some x, some (W (cAt own 0) w), b4, b5, some (W (cAt own 0) a), some (W (cAt own 0) b), some (W (cAt own 0) c), b7, b8] ∧ h' = h2) (fun B hB => ?_) ?_
      · simp [↓List.forall_mem_append, eq_true ga, eq_true gb, eq_true gc, eq_true gw, hw, t.in_Weaving, e1, e2, e3, bEq_da]
        and_intros
        all_goals first | omega | exact hB _ _ ⟨rfl, rfl⟩ | simp [or_imp, forall_and, eq_true ga, eq_true gb, eq_true gc]
      rintro ρ h3 ⟨rfl, rfl⟩
      refine seq_rule (fun ρ h' => (∃ k : Int, 0 ≤ k ∧ k ≤ w.length ∧ ρ = [some (.lis (ns.map MV.int)), some (.ref d), some x, some (W (cAt own 0) w), some (.int k), b5, some (W (cAt own 0) a), some (W (cAt own 0) b), some (W (cAt own 0) c), b7, b8]) ∧ h' = h3.sp 1) (fun B hB => ?_) ?_
      · simp
        refine ⟨by omega, sr1.less (by omega), by omega, by omega, fun k k0 k1 => hB _ _ ⟨⟨k, k0, by omega, rfl⟩, rfl⟩⟩
      rintro ρ h4 ⟨⟨k, k0, k1, rfl⟩, rfl⟩
      have sr2 : (h3.sp 1).src (.ref d) (2199 + 4000 * r.length) := sr1.sp (by omega)
      generalize h3.sp 1 = h4 at sr2
      have t1 := slT_take (xs := w) k0 k1
      have t2 := slT_drop (xs := w) k0 k1
      have g1 : ∀ x ∈ w.take k.toNat, GoodEv x := fun x m => gw x (List.mem_of_mem_take m)
      have g2 : ∀ x ∈ w.drop k.toNat, GoodEv x := fun x m => gw x (List.mem_of_mem_drop m)
      have nw := evs_noB gw
      have sub : ∀ l m : List MV, (∀ x ∈ l, GoodEv x) → (∀ x ∈ m, GoodEv x) → (subB l m = true ↔ l.Sublist m) := fun l m gl gm => subB_iff (fun z mm => ev_noB (gl z mm)) (fun z mm => ev_noB (gm z mm))
      have s1 : subB w (w.take k.toNat) = true → eqP (.tup w) (.tup (w.take k.toNat)) = true := fun h => by
        have := ((sub _ _ gw g1).mp h)
        have : w = w.take k.toNat := this.eq_of_length_le (by simp; omega)
        rw [← this]
        exact e1
      have s2 : subB (w.drop k.toNat) w = true := (sub _ _ g2 gw).mpr (List.drop_sublist _ _)
      refine seq_rule (fun ρ h' => ρ = [some (.lis (ns.map MV.int)), some (.ref d), some x, some (W (cAt own 0) w), some (.int k), b5, some (W (cAt own 0) a), some (W (cAt own 0) b), some (W (cAt own 0) c), b7, b8] ∧ h' = h4) (fun B hB => ?_) ?_
      · simp [↓List.forall_mem_append, eq_true gw, hw, t.in_Weaving, e1, bEq_da, t1, t2, eq_true g1, eq_true g2, s2]
        refine ⟨by omega, by omega, by omega, by omega, by omega, ?_⟩
        rw [if_neg (fun ⟨h1, h2⟩ => by rw [s1 h1] at h2; cases h2)]
        exact ⟨by omega, by omega, by omega, hB _ _ ⟨rfl, rfl⟩⟩
      rintro ρ h5 ⟨rfl, rfl⟩
      refine seq_rule (fun ρ h' => (∃ out : List Int, out.Pairwise (· < ·) ∧ (∀ k, k ∈ out ↔ k ∈ ups a ∨ k ∈ ups b) ∧ ρ = [some (.lis (ns.map MV.int)), some (.ref d), some x, some (W (cAt own 0) w), some (.int k), some (.lis (out.map MV.int)), some (W (cAt own 0) a), some (W (cAt own 0) b), some (W (cAt own 0) c), b7, b8]) ∧ h' = h5) (fun B hB => ?_) ?_
      · simp [eq_true ga, eq_true gb]
        refine ⟨by omega, fun oa oa1 oa2 => ⟨by omega, fun ob ob1 ob2 => ?_⟩⟩
        have lA : oa.length ≤ 6 := Nat.le_trans (pw_len oa1 fun k m => (oa2 k).mp m) (Nat.le_trans (List.length_filterMap_le _ _) la)
        have lB : ob.length ≤ 6 := Nat.le_trans (pw_len ob1 fun k m => (ob2 k).mp m) (Nat.le_trans (List.length_filterMap_le _ _) lb)
        refine ⟨by omega, ?_⟩
        rw [← List.map_append]
        refine lc_map (fun y => y) (by simp; omega) (fun _ _ _ => rfl) (fun D acc y m n qy qn kk => ?_) ?_
        · dsimp only [wipeM, List.set]
          obtain ⟨i, _, rfl⟩ := List.mem_map.mp m
          simp
          exact kk
        · rw [List.map_id']
          simp
          refine ⟨oa ++ ob, by simp, by simp; omega, fun out o1 o2 => ?_⟩
          simp
          exact hB _ _ ⟨⟨out, o1, fun k => by rw [o2 k, List.mem_append, oa2, ob2], rfl⟩, rfl⟩
      rintro ρ h6 ⟨⟨out, o1, o2, rfl⟩, rfl⟩
      have lO : out.length ≤ 12 := Nat.le_trans (pw_len (L := ups a ++ ups b) o1 fun k m => List.mem_append.mpr ((o2 k).mp m)) (by
        have := List.length_filterMap_le upOf a
        have := List.length_filterMap_le upOf b
        simp [ups]
        omega)
      have dO : Da (.tup (out.map MV.int)) := (Dt.tupN (d := 0) (m := 40) (n := 12) (k := 600) (fun y m => by
        obtain ⟨i, mi, rfl⟩ := List.mem_map.mp m
        have hi : Num i := ((o2 i).mp mi).elim (ups_num ga) (ups_num gb)
        exact Dt.int (by have := hi.1; have := hi.2; omega)) (by simp; omega) (by decide)).da
      refine seq_rule (fun ρ h' => ρ = [some (.lis (ns.map MV.int)), some (.ref d), some x, some (W (cAt own 0) w), some (.int k), some (.lis (out.map MV.int)), some (W (cAt own 0) a), some (W (cAt own 0) b), some (W (cAt own 0) c), b7, b8] ∧ h' = h6) (fun B hB => ?_) ?_
      · simp [or_imp, forall_and, eq_true ga, eq_true gb]
        refine ⟨by omega, by omega, fun x1 p1 p2 => ?_⟩
        have ex : x1 = out := pw_eq p1 o1 fun k => by rw [p2 k, o2 k, ups, List.filterMap_append, List.mem_append]; rfl
        subst ex
        simp [bEq_da, dO, eqP_da, or_imp, forall_and, eq_true ga, eq_true gb]
        refine ⟨by omega, by omega, fun x2 p3 p4 => ?_⟩
        have ex : x2 = x1 := pw_eq p3 o1 fun k => by rw [p4 k, o2 k, ups, List.filterMap_append, List.mem_append, or_comm]; rfl
        subst ex
        simp [bEq_da, dO, eqP_da]
        exact hB _ _ ⟨rfl, rfl⟩
      rintro ρ h7 ⟨rfl, rfl⟩
      have s3 : subB (a ++ c) w = true := (sub _ _ (goods_app ga gc) gw).mpr (by rw [← hw]; exact List.Sublist.append (List.Sublist.refl a) (List.sublist_append_right b c))
      have s4 : subB b w = true := (sub _ _ gb gw).mpr (by rw [← hw]; exact (List.sublist_append_left b c).trans (List.sublist_append_right a _))
      have g5 : ∀ x ∈ ev2 w, GoodEv x := fun x m => gw x ((ev2_sub w).subset m)
      have s5 : subB (ev2 w) w = true := (sub _ _ g5 gw).mpr (ev2_sub w)
      have l5 : (ev2 w).length ≤ 18 := Nat.le_trans (ev2_sub w).length_le lw
      have g6 : ∀ x ∈ slT w (some 2) none (some 2), GoodEv x := fun x m => gw x (slT_mem m)
      have l6 : (slT w (some 2) none (some 2)).length ≤ 18 := Nat.le_trans (slT_len (by decide)) lw
      have e6 := ew _ g6 (by omega)
      refine seq_rule (fun ρ h' => ρ = [some (.lis (ns.map MV.int)), some (.ref d), some x, some (W (cAt own 0) w), some (.int k), some (.lis (out.map MV.int)), some (W (cAt own 0) a), some (W (cAt own 0) b), some (W (cAt own 0) c), b7, b8] ∧ h' = h7) (fun B hB => ?_) ?_
      · simp [or_imp, forall_and, eq_true ga, eq_true gb, eq_true gc, eq_true gw, eq_true g5, eq_true g6, s3, s4, s5, slT_ev, slT_ev2, e6, t.in_Weaving]
        exact ⟨by omega, by omega, by omega, by omega, by omega, by omega, by omega, by omega, by omega, hB _ _ ⟨rfl, rfl⟩⟩
      rintro ρ h8 ⟨rfl, rfl⟩
      have sabc : subB a b = true → subB b c = true → subB a c = true := fun h1 h2 => (sub _ _ ga gc).mpr (((sub _ _ ga gb).mp h1).trans ((sub _ _ gb gc).mp h2))
      have sapp : subB a b = true → subB (a ++ c) (b ++ c) = true := fun h1 => (sub _ _ (goods_app ga gc) (goods_app gb gc)).mpr (((sub _ _ ga gb).mp h1).append (List.Sublist.refl c))
      have santi : subB a b = true → subB b a = true → eqP (.tup a) (.tup b) = true := fun h1 h2 => by
        have := ((sub _ _ ga gb).mp h1).eq_of_length_le ((sub _ _ gb ga).mp h2).length_le
        subst this
        exact ew _ ga (by omega)
      refine seq_rule (fun ρ h' => ρ = [some (.lis (ns.map MV.int)), some (.ref d), some x, some (W (cAt own 0) w), some (.int k), some (.lis (out.map MV.int)), some (W (cAt own 0) a), some (W (cAt own 0) b), some (W (cAt own 0) c), b7, b8] ∧ h' = h8) (fun B hB => ?_) ?_
      · cases A1 : subB a b <;> cases A2 : subB b c <;> cases A3 : subB b a <;> simp [or_imp, forall_and, eq_true ga, eq_true gb, eq_true gc, A1, A2, A3, sabc, sapp, santi, t.in_Weaving]
        all_goals
          and_intros
          all_goals first | omega | exact hB _ _ ⟨rfl, rfl⟩
      rintro ρ h9 ⟨rfl, rfl⟩
      have rd : ∀ (h : MH) (q : QV) (e : QX), S_read (cAt own 0) (er K "InvalidText") [.ref (cAt own 0), .str (txtW w)] h q e = q (W (cAt own 0) w) h := fun h q e => by
        obtain ⟨rt1, rt2⟩ := read_txt gw
        refine propext ⟨fun ⟨z, e1, _, k⟩ => ?_, fun k => ⟨txtW w, rfl, txtW_len gw (by omega), ?_⟩⟩
        · cases e1
          rw [rt1, rt2] at k
          exact k
        · rw [rt1, rt2]
          exact k
      refine seq_rule (fun ρ h' => ρ = [some (.lis (ns.map MV.int)), some (.ref d), some x, some (W (cAt own 0) w), some (.int k), some (.lis (out.map MV.int)), some (W (cAt own 0) a), some (W (cAt own 0) b), some (W (cAt own 0) c), b7, b8] ∧ h' = h9) (fun B hB => ?_) ?_
      · simp [eq_true gw, rd, e1, slT_rev, t.in_Weaving]
        exact ⟨by omega, hB _ _ ⟨rfl, rfl⟩⟩
      rintro ρ h10 ⟨rfl, rfl⟩
      refine seq_rule (fun ρ h' => ρ = [some (.lis (ns.map MV.int)), some (.ref d), some x, some (W (cAt own 0) w), some (.int k), some (.lis (out.map MV.int)), some (W (cAt own 0) a), some (W (cAt own 0) b), some (W (cAt own 0) c), b7, b8] ∧ h' = h10) (fun B hB => ?_) ?_
      · simp
        refine ⟨by omega, by omega, ?_⟩
        refine lc_fm (fun _ => none) (by simp; omega) (fun D acc n => trivial) (fun D acc y m n qy qn k1 k2 => ?_) ?_
        · dsimp only [wipeM, List.set]
          obtain ⟨i, hi, rfl⟩ := List.mem_map.mp m
          have hi : i < w.length := by simpa using hi
          have gi := gw _ (List.getElem_mem hi)
          have e8 := ew [w[i]] (by simpa using gi) (by simp)
          simp [eq_true gw, slT_one hi]
          refine ⟨by omega, fun v ev => ?_, hi⟩
          rw [List.getElem?_eq_getElem hi] at ev
          cases ev
          refine ⟨by decide, gi, t.in_Weaving, gi, gi, ?_⟩
          rw [e8]
          exact k2 rfl
        · have dn : Da (.lis []) := (Dt.lisN (d := 0) (m := 4) (n := 1) (k := 100) (fun y m => by cases m) (by simp) (by decide)).da
          rw [fm_none]
          simp [bEq_da, dn, eqP_da]
          exact hB _ _ ⟨rfl, rfl⟩
      rintro ρ h11 ⟨rfl, rfl⟩
      have ga' : ∀ x ∈ a.map (reN (firsts [] a)), GoodEv x := fun x m => by
        obtain ⟨y, hy, rfl⟩ := List.mem_map.mp m
        exact reN_good (ga y hy) (Nat.le_trans (firsts_len [] a) (by simp; omega))
      have gab : ∀ x ∈ (a ++ b).map (reN (firsts [] (a ++ b))), GoodEv x := fun x m => by
        obtain ⟨y, hy, rfl⟩ := List.mem_map.mp m
        exact reN_good (goods_app ga gb y hy) (Nat.le_trans (firsts_len [] (a ++ b)) (by simp; omega))
      have lab : ((a ++ b).map (reN (firsts [] (a ++ b)))).length = a.length + b.length := by simp
      have eab : slT ((a ++ b).map (reN (firsts [] (a ++ b)))) none (some (a.length : Int)) none = a.map (reN (firsts [] a)) := by
        rw [slT_take (by omega) (by omega)]
        exact reN_app ga
      have e7 := ew _ ga' (by simp; omega)
      have gA : ∀ y ∈ a, GoodEv (reN (firsts [] (a ++ b)) y) := fun y m => gab _ (List.mem_map.mpr ⟨y, by simp [m], rfl⟩)
      have gB : ∀ y ∈ b, GoodEv (reN (firsts [] (a ++ b)) y) := fun y m => gab _ (List.mem_map.mpr ⟨y, by simp [m], rfl⟩)
      have gA2 : ∀ y ∈ a, GoodEv (reN (firsts [] a) y) := fun y m => ga' _ (List.mem_map.mpr ⟨y, m, rfl⟩)
      rw [List.map_append] at eab
      simp [or_imp, forall_and, eq_true ga, eq_true gb, eq_true gA, eq_true gB, eq_true gA2, eab, e7, t.in_Weaving]
      exact ⟨by omega, by omega, by omega, by omega, hN _ _ ⟨⟨_, _, _, _, _, _, _, _, _, rfl⟩, hr', sr2.less (by omega)⟩⟩
  · rintro ρ h ⟨⟨b0, b1, b2, b3, b4, b5, b6, b7, b8, rfl⟩, _, _⟩
    simp
    exact QV.wk_i (z _)
end MM
end
section
namespace MM
open PySem PySem.Spec PyProof.Rows L2
theorem law_m {P : Program} {w : World} {K : PySem.W.Frag} {mg : Str → Option Value} {own : List Addr} (t : Txt K mg own) {fa : Addr} (hfa : mg "law" = some (.ref fa)) : LawM P w K mg 12 63 "_law_script" fa := by
  obtain ⟨f, fd, hm, F⟩ := t.d_law
  rw [hfa] at hm
  cases hm
  refine ⟨fd, ?_, fun base => ?_⟩
  · intro s u
    exact FunD.bindsA (ps := ["_law_script"]) F (fun _ _ _ _ _ _ us hl => match us, hl with | [_], _ => rfl) s [u] rfl
  · have fi := f_is_integer (P := P) (w := w) (base := base) t
    have fs := f_is_sequence (P := P) (w := w) (base := base) t
    have fe := f_is_event t fi
    have dr := f__law_draw (P := P) (w := w) (base := base) t
    have pk := f__law_pick t dr
    have ev := f__law_event t dr pk
    have nu := f__law_numbers t dr pk
    have evs := f__law_events t dr ev nu
    have re := r_InvalidEvent (P := P) (w := w) (base := base) t
    have wi := mx_Winit t fs fe re
    have cw := c_Weaving1 t wi
    have cw0 := c_Weaving0 t wi
    have ne := r_NoEvent (P := P) (w := w) (base := base) t
    have rt := r_InvalidText (P := P) (w := w) (base := base) t
    have cs := cs_Weaving1 cw
    have ad := (f_Wadd t cs).opAdd t.o_Weaving
    have mu := f_Wmul t cs
    have mo := mu.opMul t.o_Weaving
    have rm := (f_Wrmul t mo).opRmul mu t.o_Weaving
    have le := f_Wle (P := P) (w := w) (base := base) t
    have leO := le.le (own := own) t.isi t.ins t.eq_Weaving
    have lt := f_Wlt t leO
    have ltO := lt.lt (own := own) t.isi t.ins t.eq_Weaving
    have gm := f_Wget t (f_is_integerS t) cs ne
    have go := g_Weaving t gm
    have st := (f_Wstr (P := P) (w := w) (base := base) t (f_event_text t)).strO
    have cm := f_read t (f_event_in t (f_number_in t) fe) cw rt
    exact Df.fnM F sc_law (fun args h q e ⟨ns, e1, _⟩ => by rw [e1]; rfl) (body_law t (f__law_deal t) evs dr cs ad mo rm leO ((f_Wgt t ltO).gt t.isi t.ins t.eq_Weaving) (e_Weaving t) (f_Wlen t).lenO go st cm (p_Wup t) (f_Wren t cs))
end MM
set_option maxHeartbeats 0
open PySem PySem.W PySem.Calls PyProof.Rows
theorem PySem.Challenge.cw_parthauls_k12_whole_weavings_go_together_holds : PySem.Challenge.rw_parthauls_k12_whole_weavings_go_together.Holds := by
  w_on; o_law
  refine HandSHeadRun.head_any (r := OpenLaw.row PySem.Challenge.rw_parthauls_k12_whole_weavings_go_together) (q := view (OpenLaw.row PySem.Challenge.rw_parthauls_k12_whole_weavings_go_together).prog [26]) (H := MM.hkL) (ob := MM.obL) (M := 8000) (loose := MM.nsL) (d := HandSHeadRun.topDef (OpenLaw.row PySem.Challenge.rw_parthauls_k12_whole_weavings_go_together).prog 26) (kwd := []) MM.obL_eq
    (by kernel_rfl) (fun s => by kernel_rfl) MM.runL (by kernel_rfl) (by kernel_rfl) (by kernel_rfl) (by rfl) (by first | assumption | decide +kernel) (by decide +kernel) ⟨rfl, rfl, rfl, rfl, rfl, by decide +kernel⟩ ?hw ?hc
  case hw => w_witness2
  case hc =>
    refine MM.walkM (l := PySem.Challenge.rw_parthauls_k12_whole_weavings_go_together) (n := 63) (k := 12) (x := "_law_script") rfl (by decide) (by kernel_rfl) ⟨rfl, by decide, by decide⟩ ?F
    intro w mg fa h Y G hmg0
    obtain ⟨K, KX, c⟩ := Y
    have hmg : mg ("law" : PySem.Str) = some (.ref fa) := by
      have e : (HandSHeadRun.topDef (OpenLaw.row PySem.Challenge.rw_parthauls_k12_whole_weavings_go_together).prog 26).name = ("law" : PySem.Str) := by kernel_rfl
      rw [← e]
      exact hmg0
    exact ⟨K, KX, MM.law_m (MM.txt_of KX G c) hmg⟩
end
