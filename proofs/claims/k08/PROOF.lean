import PyProof.Rows.All
import Wide.All
import OpenK.AllK
import Wide.FinOn
import KE.KStateDown
import Lean
import HandS.ForMost
import HandS.Exc
import HandS.TryOnly
import HandS.ExcOwn
import HandS.ExcInit
import HandS.ExcValue
import HandS.ExcIs
import HandS.WordsExc
import HandS.CallSlots
import HandS.Defaults
import HandS.IsInst
import HandS.TupAny
import HandS.TupMul
import HandS.Flow
import HandS.Wide
import KE.KExcIs
import HandS.Zip
import HandS.Conv
import HandS.OwnEq
import HandS.SortOrd
import HandS.DictEq
import HandS.DeepEq
import HandS.MakeKw
import HandS.Lambda
import HandS.Style
import HandS.Deep
import HandS.ListEq
import KE.GoesEnum
import KE.GoesMore
import KE.GoesZip
import HandS.Iter
import HandS.ListItems
import HandS.ExcField
import HandS.ClsMeth
import PyProof.InstNe
import HandS.Head0
import HandS.Head1
import HandS.Head2
import HandS.HeadEnd
import HandS.HeadHook1
import HandS.HeadHook2
import HandS.HeadHook4
import HandS.HeadWalk
import KE.SortData
import HandS.Strs
import PyProof.P3In
import KE.KDictPairs
import PySem.Challenge.RW_wishregions_k08_refusals_of_cells
set_option Elab.async false
set_option linter.all false
set_option maxRecDepth 100000
set_option maxHeartbeats 0
namespace WR
open PySem PySem.Spec PyProof.Rows L2

/-- values as trees -/
inductive T where
  | non | bl (b : Bool) | int (i : Int) | str (x : Str)
  | tup (xs : List T) | lst (xs : List T) | scr (ns : List Int)
  | dct (ks : List Key) (vs : List T)
  | ins (c : Nat) (fs : List Str) (vs : List T)
  | exc (c : Nat) (fs : List Str) (vs : List T)
  | fn (n : Nat)
  | ty (n : String)
  | cls (c : Nat)
  | ref (n : Nat)
  | lam (n : Nat)
  deriving Inhabited

/-- what the text's names stand for -/
structure Gam where
  K : PySem.W.Frag
  cad : Nat → Addr
  fad : Nat → Addr
  tad : Nat → Addr × Str
  lam : Nat → Addr → Addr → Heap → Prop
  lamQ : Str
  w : World

/-- an exception value that was caught -/
def ExV (cls : Value) (d : Option Addr) (a : Addr) : HO := .ext fun h => ∃ (oe : Obj) (vs : Array Value), h.get? a = some oe ∧ Zc cls d oe ∧ oe.data = .fields vs

/-- a tuple of the written part -/
def KTu (K : PySem.W.Frag) (a : Addr) (xs : List V) : Prop := ∃ (o : Obj) (its : Array Value) (n : Nat), K.lookup a = some o ∧ o.cls = .type "tuple" ∧ o.data = .seq its n ∧ its.size ≤ sizeLine ∧ Vals xs its.toList ∧ o.dict = none
/-- a tuple, its object known -/
def TupF (H : Hp) (a : Addr) (xs : List V) : Prop := ∃ o : Obj, o.dict = none ∧ H a = some (.frz o (.tup xs))
/-- a tuple, by what is tracked of it -/
def Tu : HO → Prop
  | .tup _ => True
  | .frz _ (.tup _) => True
  | _ => False
/-- a list of the written part -/
def KL (K : PySem.W.Frag) (a : Addr) (xs : List V) : Prop := ∃ (o : Obj) (its : Array Value) (n : Nat), K.lookup a = some o ∧ o.cls = .type "list" ∧ o.dict = none ∧ o.data = .seq its n ∧ its.size ≤ sizeLine ∧ Vals xs its.toList
section
variable (Γ : Gam) (F ρ : List Addr) (H : Hp)
mutual
def RV : T → V → Prop
  | .non, v => v = .non
  | .bl b, v => v = .bl b
  | .int i, v => v = .int i
  | .str x, v => v = .str x
  | .tup xs, v => ∃ a vs, v = .ref a ∧ (TupF H a vs ∨ KTu Γ.K a vs) ∧ RVs xs vs
  | .lst xs, v => ∃ a vs, v = .ref a ∧ a ∉ F ∧ a ∉ ρ ∧ H a = some (.lst vs) ∧ RVs xs vs
  | .scr ns, v => ∃ a, v = .ref a ∧ ((a ∉ F ∧ a ∉ ρ ∧ Rd H a (.lst (ns.map V.int))) ∨ KL Γ.K a (ns.map V.int))
  | .dct ks xs, v => ∃ (a : Addr) (kvs : List (Key × V)), v = .ref a ∧ a ∉ F ∧ a ∉ ρ ∧ Rd H a (.dK kvs) ∧ kvs.map (·.1) = ks ∧ RVs xs (kvs.map (·.2))
  | .ins c fs xs, v => ∃ (a dx : Addr) (fvs : List (Str × V)), v = .ref a ∧ a ∉ F ∧ a ∉ ρ ∧ H a = some (.ins (Γ.cad c) dx fvs) ∧ fvs.map (·.1) = fs ∧ RVs xs (fvs.map (·.2))
  | .exc c fs xs, v => ∃ (a : Addr) (d : Option Addr), v = .ref a ∧ a ∉ F ∧ a ∉ ρ ∧ H a = some (ExV (.ref (Γ.cad c)) d a) ∧
      ((d = none ∧ fs = [] ∧ RVs xs []) ∨ ∃ (dd : Addr) (fvs : List (Str × V)), d = some dd ∧ dd ∉ F ∧ dd ∉ ρ ∧ H dd = some (.xd fvs) ∧ fvs.map (·.1) = fs ∧ RVs xs (fvs.map (·.2)))
  | .fn n, v => v = .ref (Γ.fad n)
  | .ty n, v => v = .ty n
  | .cls c, v => v = .ref (Γ.cad c)
  | .ref n, v => ∃ a, v = .ref a ∧ ρ[n]? = some a
  | .lam n, v => ∃ f c, v = .ref f ∧ f ∉ F ∧ f ∉ ρ ∧ H f = some (.ext (Γ.lam n f c)) ∧ c ∉ F ∧ c ∉ ρ ∧ H c = some (LamX.CodeO c Γ.lamQ)
def RVs : List T → List V → Prop
  | [], vs => vs = []
  | x :: xs, vs => ∃ v r, vs = v :: r ∧ RV x v ∧ RVs xs r
end
end

section
variable {Γ : Gam} {F ρ : List Addr} {H : Hp}
theorem RVs.length : ∀ {xs : List T} {vs : List V}, RVs Γ F ρ H xs vs → xs.length = vs.length
  | [], vs, h => by
    have e : vs = [] := h
    subst e; rfl
  | x :: xs, _, h => by
    obtain ⟨v, r, rfl, _, h2⟩ := h
    simp [RVs.length h2]
theorem RVs.get : ∀ {xs : List T} {vs : List V} {i : Nat} {x : T}, RVs Γ F ρ H xs vs → xs[i]? = some x → ∃ v, vs[i]? = some v ∧ RV Γ F ρ H x v
  | [], _, _, _, _, e => by simp at e
  | y :: ys, _, 0, x, h, e => by
    obtain ⟨v, r, rfl, h1, _⟩ := h
    simp at e; subst e
    exact ⟨v, rfl, h1⟩
  | y :: ys, _, i + 1, x, h, e => by
    obtain ⟨v, r, rfl, _, h2⟩ := h
    obtain ⟨u, e1, e2⟩ := RVs.get (i := i) h2 (by simpa using e)
    exact ⟨u, by simpa using e1, e2⟩
theorem RVs.getV {xs : List T} {vs : List V} {i : Nat} {v : V} (h : RVs Γ F ρ H xs vs) (e : vs[i]? = some v) : ∃ x, xs[i]? = some x ∧ RV Γ F ρ H x v := by
  have hi : i < vs.length := (List.getElem?_eq_some_iff.mp e).1
  have hx : i < xs.length := by rw [h.length]; exact hi
  obtain ⟨u, e1, e2⟩ := h.get (List.getElem?_eq_getElem hx)
  rw [e] at e1; cases e1
  exact ⟨_, List.getElem?_eq_getElem hx, e2⟩
theorem RVs.append : ∀ {xs ys : List T} {vs ws : List V}, RVs Γ F ρ H xs vs → RVs Γ F ρ H ys ws → RVs Γ F ρ H (xs ++ ys) (vs ++ ws)
  | [], _, _, _, h, h' => by rw [show _ = [] from h]; exact h'
  | x :: xs, _, _, _, h, h' => by
    obtain ⟨v, r, rfl, h1, h2⟩ := h
    exact ⟨v, r ++ _, rfl, h1, RVs.append h2 h'⟩
theorem RVs.drop : ∀ {xs : List T} {vs : List V} (n : Nat), RVs Γ F ρ H xs vs → RVs Γ F ρ H (xs.drop n) (vs.drop n)
  | _, _, 0, h => h
  | [], _, _ + 1, h => by rw [show _ = [] from h]; exact rfl
  | x :: xs, _, n + 1, h => by
    obtain ⟨v, r, rfl, _, h2⟩ := h
    exact RVs.drop n h2
theorem RVs.take : ∀ {xs : List T} {vs : List V} (n : Nat), RVs Γ F ρ H xs vs → RVs Γ F ρ H (xs.take n) (vs.take n)
  | _, _, 0, _ => rfl
  | [], _, _ + 1, h => by rw [show _ = [] from h]; exact rfl
  | x :: xs, _, n + 1, h => by
    obtain ⟨v, r, rfl, h1, h2⟩ := h
    exact ⟨v, r.take n, rfl, h1, RVs.take n h2⟩
theorem RVs.set : ∀ {xs : List T} {vs : List V} (i : Nat) {x : T} {v : V}, RVs Γ F ρ H xs vs → RV Γ F ρ H x v → RVs Γ F ρ H (xs.set i x) (vs.set i v)
  | [], _, _, _, _, h, _ => by rw [show _ = [] from h]; exact rfl
  | y :: ys, _, 0, _, _, h, hx => by
    obtain ⟨v, r, rfl, _, h2⟩ := h
    exact ⟨_, _, rfl, hx, h2⟩
  | y :: ys, _, i + 1, _, _, h, hx => by
    obtain ⟨v, r, rfl, h1, h2⟩ := h
    exact ⟨_, _, rfl, h1, RVs.set i h2 hx⟩
theorem RVs.eraseIdx : ∀ {xs : List T} {vs : List V} (i : Nat), RVs Γ F ρ H xs vs → RVs Γ F ρ H (xs.eraseIdx i) (vs.eraseIdx i)
  | [], _, _, h => by rw [show _ = [] from h]; exact rfl
  | y :: ys, _, 0, h => by
    obtain ⟨v, r, rfl, _, h2⟩ := h
    exact h2
  | y :: ys, _, i + 1, h => by
    obtain ⟨v, r, rfl, h1, h2⟩ := h
    exact ⟨_, _, rfl, h1, RVs.eraseIdx i h2⟩
theorem RVs.one {x : T} {v : V} (h : RV Γ F ρ H x v) : RVs Γ F ρ H [x] [v] := ⟨v, [], rfl, h, rfl⟩
theorem RVs.snoc {xs : List T} {vs : List V} {x : T} {v : V} (h : RVs Γ F ρ H xs vs) (hx : RV Γ F ρ H x v) : RVs Γ F ρ H (xs ++ [x]) (vs ++ [v]) := h.append (.one hx)
end

/-- what is kept: all that is tracked beside the objects of one's own; tuples -/
def Keep (ρ : List Addr) (H H' : Hp) : Prop := ∀ a o, H a = some o → (a ∉ ρ ∨ Tu o) → H' a = some o
def KeepW (F ρ : List Addr) (H H' : Hp) : Prop := ∀ a o, H a = some o → ((a ∉ F ∧ a ∉ ρ) ∨ Tu o) → H' a = some o
/-- the own objects grow by new ones -/
def Grow (ρ ρ' : List Addr) (H : Hp) : Prop := ∃ new, ρ' = ρ ++ new ∧ ∀ a ∈ new, H a = none
/-- what is looked after elsewhere is tracked -/
def Trk (F : List Addr) (H : Hp) : Prop := ∀ a ∈ F, H a ≠ none

section
variable {Γ : Gam} {F F' ρ ρ' : List Addr} {H H' : Hp}
theorem Keep.refl : Keep ρ H H := fun _ _ h _ => h
theorem Grow.refl : Grow ρ ρ H := ⟨[], by simp, fun _ h => nomatch h⟩
theorem Keep.w (k : Keep ρ H H') : KeepW F ρ H H' := fun a o e c => k a o e (c.elim (fun z => .inl z.2) .inr)
theorem tupK_sq {K : PySem.W.Frag} {a : Addr} {xs : List V} (h : TupF H a xs ∨ KTu K a xs) : SqT K H a xs := by
  rcases h with ⟨o, _, h⟩ | ⟨o, its, n, e1, e2, e3, e4, e5, _⟩
  · exact .inl (.inr ⟨o, h⟩)
  · exact .inr ⟨o, its, n, e1, e2, e3, e4, e5⟩
theorem Rd.keep {a : Addr} {u : HO} (h : Rd H a u) (k : KeepW F ρ H H') (n1 : a ∉ F) (n : a ∉ ρ) : Rd H' a u := by
  rcases h with h | ⟨o, h⟩
  · exact .inl (k a _ h (.inl ⟨n1, n⟩))
  · exact .inr ⟨o, k a _ h (.inl ⟨n1, n⟩)⟩
theorem Rd.has {a : Addr} {u : HO} (h : Rd H a u) : H a ≠ none := by
  rcases h with h | ⟨o, h⟩ <;> rw [h] <;> simp
theorem Grow.mem (g : Grow ρ ρ' H) {a : Addr} (h : a ∈ ρ') : a ∈ ρ ∨ H a = none := by
  obtain ⟨new, e, hn⟩ := g
  rw [e] at h
  rcases List.mem_append.mp h with h | h
  · exact .inl h
  · exact .inr (hn a h)
theorem Grow.get (g : Grow ρ ρ' H) {n : Nat} {a : Addr} (h : ρ[n]? = some a) : ρ'[n]? = some a := by
  obtain ⟨new, e, hn⟩ := g
  rw [e, List.getElem?_append_left (List.getElem?_eq_some_iff.mp h).1]
  exact h
mutual
theorem RV.grow (hF : ∀ a ∈ F', a ∈ F ∨ H a = none) (g : Grow ρ ρ' H) (k : KeepW F ρ H H') : ∀ (x : T) (v : V), RV Γ F ρ H x v → RV Γ F' ρ' H' x v
  | .non, _, h => h
  | .bl _, _, h => h
  | .int _, _, h => h
  | .str _, _, h => h
  | .fn _, _, h => h
  | .ty _, _, h => h
  | .cls _, _, h => h
  | .tup xs, v, h => by
    obtain ⟨a, vs, rfl, h1, h2⟩ := h
    refine ⟨a, vs, rfl, ?_, RVs.grow hF g k xs vs h2⟩
    rcases h1 with ⟨o, e0, h1⟩ | h1
    · exact .inl ⟨o, e0, k a _ h1 (.inr True.intro)⟩
    · exact .inr h1
  | .lst xs, v, h => by
    obtain ⟨a, vs, rfl, n1, n2, h1, h2⟩ := h
    refine ⟨a, vs, rfl, fun z => ?_, fun z => ?_, k a _ h1 (.inl ⟨n1, n2⟩), RVs.grow hF g k xs vs h2⟩
    · rcases hF a z with z | z
      · exact n1 z
      · rw [h1] at z; cases z
    · rcases g.mem z with z | z
      · exact n2 z
      · rw [h1] at z; cases z
  | .scr ns, v, h => by
    obtain ⟨a, rfl, h⟩ := h
    refine ⟨a, rfl, ?_⟩
    rcases h with ⟨n1, n2, h1⟩ | h
    · refine .inl ⟨fun z => ?_, fun z => ?_, Rd.keep h1 k n1 n2⟩
      · rcases hF a z with z | z
        · exact n1 z
        · exact Rd.has h1 z
      · rcases g.mem z with z | z
        · exact n2 z
        · exact Rd.has h1 z
    · exact .inr h
  | .dct ks xs, v, h => by
    obtain ⟨a, kvs, rfl, n1, n2, h1, h3, h2⟩ := h
    refine ⟨a, kvs, rfl, fun z => ?_, fun z => ?_, Rd.keep h1 k n1 n2, h3, RVs.grow hF g k xs _ h2⟩
    · rcases hF a z with z | z
      · exact n1 z
      · exact Rd.has h1 z
    · rcases g.mem z with z | z
      · exact n2 z
      · exact Rd.has h1 z
  | .ins c fs xs, v, h => by
    obtain ⟨a, dx, fvs, rfl, n1, n2, h1, h3, h2⟩ := h
    refine ⟨a, dx, fvs, rfl, fun z => ?_, fun z => ?_, k a _ h1 (.inl ⟨n1, n2⟩), h3, RVs.grow hF g k xs _ h2⟩
    · rcases hF a z with z | z
      · exact n1 z
      · rw [h1] at z; cases z
    · rcases g.mem z with z | z
      · exact n2 z
      · rw [h1] at z; cases z
  | .exc c fs xs, v, h => by
    obtain ⟨a, d, rfl, n1, n2, h1, h2⟩ := h
    refine ⟨a, d, rfl, fun z => ?_, fun z => ?_, k a _ h1 (.inl ⟨n1, n2⟩), ?_⟩
    · rcases hF a z with z | z
      · exact n1 z
      · rw [h1] at z; cases z
    · rcases g.mem z with z | z
      · exact n2 z
      · rw [h1] at z; cases z
    · rcases h2 with ⟨e1, e2, h2⟩ | ⟨dd, fvs, e1, m1, m2, h4, h3, h2⟩
      · exact .inl ⟨e1, e2, RVs.grow hF g k xs _ h2⟩
      · refine .inr ⟨dd, fvs, e1, fun z => ?_, fun z => ?_, k dd _ h4 (.inl ⟨m1, m2⟩), h3, RVs.grow hF g k xs _ h2⟩
        · rcases hF dd z with z | z
          · exact m1 z
          · rw [h4] at z; cases z
        · rcases g.mem z with z | z
          · exact m2 z
          · rw [h4] at z; cases z
  | .lam n, v, h => by
    obtain ⟨f, c, rfl, n1, n2, h1, n3, n4, h2⟩ := h
    refine ⟨f, c, rfl, fun z => ?_, fun z => ?_, k f _ h1 (.inl ⟨n1, n2⟩), fun z => ?_, fun z => ?_, k c _ h2 (.inl ⟨n3, n4⟩)⟩
    · rcases hF f z with z | z
      · exact n1 z
      · rw [h1] at z; cases z
    · rcases g.mem z with z | z
      · exact n2 z
      · rw [h1] at z; cases z
    · rcases hF c z with z | z
      · exact n3 z
      · rw [h2] at z; cases z
    · rcases g.mem z with z | z
      · exact n4 z
      · rw [h2] at z; cases z
  | .ref n, v, h => by
    obtain ⟨a, rfl, h1⟩ := h
    exact ⟨a, rfl, g.get h1⟩
theorem RVs.grow (hF : ∀ a ∈ F', a ∈ F ∨ H a = none) (g : Grow ρ ρ' H) (k : KeepW F ρ H H') : ∀ (xs : List T) (vs : List V), RVs Γ F ρ H xs vs → RVs Γ F' ρ' H' xs vs
  | [], _, h => h
  | x :: xs, _, h => by
    obtain ⟨v, r, rfl, h1, h2⟩ := h
    exact ⟨v, r, rfl, RV.grow hF g k x v h1, RVs.grow hF g k xs r h2⟩
end
end

/-- a dict whose keys are tuples of ints and texts, by what is true of its one object -/
def dqAt (w : World) (a : Addr) (ms : List (List Key × Addr × Value)) : Heap → Prop := fun h => ∃ (o : Obj) (es : Array DictEntry) (ep : Nat), h.get? a = some o ∧ o.ExactDict ∧ o.data = .dict es ep ∧ (∀ P : Program, es.toList = ms.map (entryOfKey (tupleKind (mixKind P w)))) ∧ (ms.map (·.1)).Nodup
/-- a tuple that is a key -/
def KeyT (K : PySem.W.Frag) (H : Hp) (b : Addr) (k : List Key) : Prop := TupF H b (k.map kV) ∨ KTu K b (k.map kV)
/-- one's own objects -/
inductive O where
  | lst (xs : List T)
  | dct (ks : List Key) (vs : List T)
  | ins (c : Nat) (fs : List Str) (vs : List T)
  | dcq (ks : List (List Key)) (vs : List T)
  | hid
  | tbl (n : Nat)
  deriving Inhabited

section
variable (Γ : Gam) (F ρ : List Addr) (H : Hp)
def RO : O → Addr → Prop
  | .lst xs, a => ∃ vs, H a = some (.lst vs) ∧ RVs Γ F ρ H xs vs
  | .dct ks xs, a => ∃ kvs : List (Key × V), H a = some (.dK kvs) ∧ kvs.map (·.1) = ks ∧ RVs Γ F ρ H xs (kvs.map (·.2))
  | .ins c fs xs, a => ∃ (dx : Addr) (fvs : List (Str × V)), H a = some (.ins (Γ.cad c) dx fvs) ∧ fvs.map (·.1) = fs ∧ RVs Γ F ρ H xs (fvs.map (·.2))
  | .dcq ks xs, a => ∃ (ms : List (List Key × Addr × Value)) (vs : List V), H a = some (.ext (dqAt Γ.w a ms)) ∧ (a == sysModules) = false ∧ ms.length ≤ sizeLine ∧ ms.map (·.1) = ks ∧ (∀ m ∈ ms, KeyT Γ.K H m.2.1 m.1) ∧ Vals vs (ms.map (·.2.2)) ∧ RVs Γ F ρ H xs vs
  | .hid, a => ∃ vs, H a = some (.lst vs)
  | .tbl n, a => a = (Γ.tad n).1 ∧ ∃ ps, H a = some (.tbl ps) ∧ TriplesOk ps.toList ∧ ∀ (pos : Pos) (cv : Value), codeAmong pos ps.toList = some cv → ∃ c, cv = .ref c ∧ c ∉ F ∧ c ∉ ρ ∧ H c = some (LamX.CodeO c (Γ.tad n).2)
/-- the store of one's own objects stands at ρ -/
structure RS (st : List O) : Prop where
  len : ρ.length = st.length
  nd : ρ.Nodup
  at_ : ∀ (n : Nat) (o : O) (a : Addr), st[n]? = some o → ρ[n]? = some a → RO Γ F ρ H o a
end
section
variable {Γ : Gam} {F F' ρ ρ' ρ'' : List Addr} {H H' H'' : Hp} {st st' st'' : List O}
theorem RO.has {o : O} {a : Addr} (h : RO Γ F ρ H o a) : ∃ u, H a = some u ∧ ¬ Tu u ∧ ∀ ob w, u ≠ .frz ob w := by
  cases o with
  | lst xs => obtain ⟨vs, e, _⟩ := h; exact ⟨_, e, id, (fun _ _ z => by cases z)⟩
  | dct ks xs => obtain ⟨vs, e, _⟩ := h; exact ⟨_, e, id, (fun _ _ z => by cases z)⟩
  | ins c fs xs => obtain ⟨dx, vs, e, _⟩ := h; exact ⟨_, e, id, (fun _ _ z => by cases z)⟩
  | dcq ks xs => obtain ⟨ms, vs, e, _⟩ := h; exact ⟨_, e, id, (fun _ _ z => by cases z)⟩
  | hid => obtain ⟨vs, e⟩ := h; exact ⟨_, e, id, (fun _ _ z => by cases z)⟩
  | tbl n => obtain ⟨_, vs, e, _⟩ := h; exact ⟨_, e, id, (fun _ _ z => by cases z)⟩
theorem RS.mem (s : RS Γ F ρ H st) {a : Addr} (h : a ∈ ρ) : ∃ u, H a = some u ∧ ¬ Tu u ∧ ∀ ob w, u ≠ .frz ob w := by
  obtain ⟨n, hn, e⟩ := List.mem_iff_getElem.mp h
  have hn' : n < st.length := by rw [← s.len]; exact hn
  exact (s.at_ n st[n] a (List.getElem?_eq_getElem hn') (by rw [List.getElem?_eq_getElem hn, e])).has
theorem RS.nil : RS Γ F [] H [] := ⟨rfl, List.nodup_nil, fun n o a e => by simp at e⟩
/-- what a run leaves behind -/
structure Post (Γ : Gam) (F ρ : List Addr) (H : Hp) (ρ' : List Addr) (st' : List O) (H' : Hp) : Prop where
  grow : Grow ρ ρ' H
  keep : Keep ρ H H'
  rs : RS Γ F ρ' H' st'
theorem Post.refl (s : RS Γ F ρ H st) : Post Γ F ρ H ρ st H := ⟨.refl, .refl, s⟩
theorem Post.trans (s : RS Γ F ρ H st) (p : Post Γ F ρ H ρ' st' H') (q : Post Γ F ρ' H' ρ'' st'' H'') : Post Γ F ρ H ρ'' st'' H'' := by
  obtain ⟨n1, e1, h1⟩ := p.grow
  obtain ⟨n2, e2, h2⟩ := q.grow
  have sub : ∀ a, a ∈ ρ → a ∈ ρ' := fun a h => by rw [e1]; exact List.mem_append_left _ h
  have kk : ∀ a o, H a = some o → (a ∉ ρ ∨ Tu o) → H'' a = some o := fun a o e c => by
    have e' := p.keep a o e c
    refine q.keep a o e' ?_
    rcases c with c | c
    · refine .inl fun z => ?_
      rw [e1] at z
      rcases List.mem_append.mp z with z | z
      · exact c z
      · have := h1 a z; rw [e] at this; cases this
    · exact .inr c
  refine ⟨⟨n1 ++ n2, by rw [e2, e1, List.append_assoc], fun a h => ?_⟩, kk, q.rs⟩
  rcases List.mem_append.mp h with h | h
  · exact h1 a h
  · have e := h2 a h
    cases q1 : H a with
    | none => rfl
    | some o =>
      by_cases c : a ∈ ρ
      · obtain ⟨u, z, _⟩ := p.rs.mem (sub a c)
        rw [e] at z; cases z
      · have := p.keep a o q1 (.inl c)
        rw [e] at this; cases this
theorem Post.rv (s : RS Γ F ρ H st) (p : Post Γ F ρ H ρ' st' H') {x : T} {v : V} (h : RV Γ F ρ H x v) : RV Γ F ρ' H' x v := RV.grow (fun _ z => .inl z) p.grow (Keep.w p.keep) x v h
theorem Post.rvs (s : RS Γ F ρ H st) (p : Post Γ F ρ H ρ' st' H') {xs : List T} {vs : List V} (h : RVs Γ F ρ H xs vs) : RVs Γ F ρ' H' xs vs := RVs.grow (fun _ z => .inl z) p.grow (Keep.w p.keep) xs vs h
theorem Post.trk (s : RS Γ F ρ H st) (p : Post Γ F ρ H ρ' st' H') (n : ∀ a ∈ F, a ∉ ρ) (t : Trk F H) : Trk F H' := fun a h e => by
  cases q : H a with
  | none => exact t a h q
  | some o => have := p.keep a o q (.inl (n a h)); rw [e] at this; cases this
end
end WR
namespace WR
open PySem PySem.Spec PyProof.Rows L2
/-! ### tuples are made: their objects are known -/
section
variable {X : Cx}
theorem frz_ok {P : Program} {w : World} {H : Hp} {h : Heap} {a : Addr} {o : Obj} {xs : List V} {its : List Value} (e : h.get? a = some o) (z : xs.length ≤ sizeLine) (r : Vals xs its) (t : IsTup h a its.toArray) : ObjOk P w H h a (.frz o (.tup xs)) := ⟨e, z, its, r, t⟩
def tupO (its : List Value) : Obj := { cls := .type "tuple", data := .seq its.toArray }
theorem tup_laid {pins : List (Addr × Obj)} {σ : L2.St} {H : Hp} {s : Shared} {xs : List V} {its : List Value} {t' : Nat} (I : Inv X pins σ H s) (z : xs.length ≤ sizeLine) (r : Vals xs its) :
    Inv X pins σ (upd H s.heap.objs.size (.frz (tupO its) (.tup xs))) { s with heap := s.heap.push { cls := .type "tuple", data := .seq its.toArray }, toks := t' } :=
  Inv.laid (o := .frz (tupO its) (.tup xs)) I (fun _ _ e1 => Heap.get?_push_of_some _ e1) (Nat.le_refl s.heap.objs.size) (frz_ok (Heap.get?_push_size _ rfl) z r (IsTup.new s.heap its.toArray))
/-- (e, ..) -/
def tTupF (t : TA) : TE := fun σ H Q => t σ H fun xs H1 => xs.length ≤ sizeLine ∧ ∀ p o, H1 p = none → o.dict = none → Q (.ref p) (upd H1 p (.frz o (.tup xs)))
theorem pe_tupF {es : List Expr} {t : TA} {pos : Pos} {k : Nat} (h : PA X es t) : PE X (.Tuple es k pos) (tTupF t) := by
  constructor
  intro pins s σ H Q I hq
  apply wpAny_Tuple_spliced
  refine thn (h.run pos pins s σ H _ I hq) fun us s1 got => ?_
  obtain ⟨xs, H1, I1, r, z, q⟩ := got
  exact ⟨r.length ▸ z, .ref _, _, tup_laid I1 z r, rfl, q _ _ (I1.hok.fresh (Nat.le_refl _)) rfl⟩
/-- tuple(xs) -/
def rTupOf (K : PySem.W.Frag) : List V → Hp → VK → Prop := fun xs H Q => ∃ p ys, xs = [.ref p] ∧ ((SqL K H p ys ∧ ∀ l o, H l = none → o.dict = none → Q (.ref l) (upd H l (.frz o (.tup ys)))) ∨ (SqT K H p ys ∧ Q (.ref p) H))
theorem call_tupF : CallR X (.type "tuple") (rTupOf X.K) := fun pins s σ H xs us Q I r h => by
  obtain ⟨p, ys, e0, h⟩ := h
  subst e0
  obtain ⟨u, e0, rx⟩ := vals1 r
  subst e0
  cases rx
  rcases h with h | h
  · obtain ⟨its, r', pl, hz⟩ := I.list h.1
    refine call_tuple_list pl.isList (fun h' kp => ?_) (by rw [List.size_toArray, ← r'.length]; exact hz)
    have I1 : Inv X pins σ H { s with heap := h' } := Inv.kept (t' := s.toks) I kp
    exact ⟨.ref _, _, tup_laid (t' := s.toks) I1 hz r', rfl, h.2 _ _ (I1.hok.fresh (Nat.le_refl _)) rfl⟩
  · obtain ⟨its, r', pl, hz⟩ := I.tuple h.1
    exact call_tuple_same pl ⟨.ref _, H, I, rfl, h.2⟩
/-- t + u -/
def rCatF (K : PySem.W.Frag) : R2 := fun x y H Q => ∃ a b xs ys, x = .ref a ∧ y = .ref b ∧ SqT K H a xs ∧ SqT K H b ys ∧ xs.length + ys.length ≤ sizeLine ∧
  (xs = [] → Q (.ref b) H) ∧ (xs ≠ [] → ys = [] → Q (.ref a) H) ∧ (xs ≠ [] → ys ≠ [] → ∀ p o, H p = none → o.dict = none → Q (.ref p) (upd H p (.frz o (.tup (xs ++ ys)))))
theorem op_catF : OpR X (binaryOp .Add) (rCatF X.K) := fun pins s σ H x y v u Q I rx ry h => by
  obtain ⟨a, b, xs, ys, ex, ey, ha, hb, hz, q0, q1, q2⟩ := h
  subst ex; subst ey
  cases rx; cases ry
  obtain ⟨its, r1, p1, _⟩ := I.tuple ha
  obtain ⟨its2, r2, p2, _⟩ := I.tuple hb
  by_cases hx : xs = []
  · subst hx
    have e1 : its = [] := r1.nil_iff.mpr rfl
    subst e1
    exact cat_tup0 p1 p2 ⟨.ref _, H, I, rfl, q0 rfl⟩
  · refine HT.cat_tup p1 p2 (fun z => hx (r1.nil_iff.mp z)) (fun z => ⟨.ref _, H, I, rfl, q1 hx (r2.nil_iff.mp z)⟩) (fun z => ?_) (by rw [← r1.length, ← r2.length]; exact hz)
    exact ⟨.ref _, _, tup_laid (t' := s.toks) I (by rw [List.length_append]; exact hz) (r1.append r2), rfl, q2 hx (fun w => z (r2.nil_iff.mpr w)) _ _ (I.hok.fresh (Nat.le_refl _)) rfl⟩
/-- t[lo:hi] -/
def rSlF (K : PySem.W.Frag) : V → Option Int → Option Int → Hp → VK → Prop := fun x lo hi H Q => ∃ a xs, x = .ref a ∧ SqT K H a xs ∧
  (HT.sIx xs.length 0 lo = 0 ∧ HT.sIx xs.length xs.length hi = xs.length → Q (.ref a) H) ∧ (¬ (HT.sIx xs.length 0 lo = 0 ∧ HT.sIx xs.length xs.length hi = xs.length) → ∀ p o, H p = none → o.dict = none → Q (.ref p) (upd H p (.frz o (.tup (cutV xs lo hi)))))
theorem sl_tupF : SlR X (rSlF X.K) := fun pins s σ H x v vl vu lo hi sl Q I rx hs pl pu h => by
  obtain ⟨a, xs, ex, hx, q1, q2⟩ := h
  subst ex
  cases rx
  obtain ⟨its, r, ht, hz⟩ := I.tuple hx
  have hl : its.toArray.size = xs.length := List.size_toArray ▸ r.length.symm
  refine ⟨"tuple", _, PyProof.Rows.slot_tuple_getitem.lookup, ht.typeIs, ?_⟩
  by_cases hw : HT.sIx xs.length 0 lo = 0 ∧ HT.sIx xs.length xs.length hi = xs.length
  · exact getItem_tuple_whole ht hs pl pu (hl ▸ hw) ⟨.ref _, H, I, rfl, q1 hw⟩
  · refine HT.getItem_tuple_cut ht hs pl pu (hl ▸ hw) ?_ (hl ▸ hz)
    rw [hl]
    exact ⟨.ref _, _, tup_laid (t' := s.toks) I (Nat.le_trans (cutV_length xs lo hi) hz) ((r.drop (HT.sIx xs.length 0 lo)).take (HT.sIx xs.length xs.length hi - HT.sIx xs.length 0 lo)), rfl, q2 hw _ _ (I.hok.fresh (Nat.le_refl _)) rfl⟩
/-- tuple(range(..)) -/
def tTupRgF (te : L2.St → Hp → (Int → Int → Hp → Prop) → Prop) : TE := fun σ H Q => te σ H fun a b H1 => RgOk a b ∧ ∀ q o, H1 q = none → o.dict = none → Q (.ref q) (upd H1 q (.frz o (.tup (rgV a b))))
theorem pe_tupRgF {e : Expr} {te : L2.St → Hp → (Int → Int → Hp → Prop) → Prop} {p pos : Pos} (hc : X.calm = true) (hg : Gl X "tuple") (hm : X.mg "tuple" = none) (he : PRg X e te) (na : starEach [e] X.env = (false, eval e X.env) :: starEach [] X.env := by rfl) : PE X (.Call (.Name "tuple" p) [e] [] pos) (tTupRgF te) := by
  constructor
  intro pins s σ H Q I h
  refine Call_ (ld_blt I hg hm boot_tuple (PyProof.Rows.callWith_type1 (args_cons (thn (he pins s σ H _ I h) fun x s1 got => args_nil ?_) na) na))
  obtain ⟨r, a, b, t, u, v, H1, ex, hr, I1, ok, q⟩ := got
  subst ex
  obtain ⟨b1, b2, b3, b4, b5⟩ := ok
  refine call_tuple_range (I1.ok.hd hc) hr (small_one b1 b2 b3 b4) (rangeSize_nat a b) b5 fun h' tk acc hk hi => ?_
  have I2 : Inv X pins σ H1 { s1 with heap := h', toks := tk } := Inv.kept I1 hk
  have fin := tup_laid (t' := tk) I2 (by rw [rgV_length, sizeLine_eq]; omega) (vals_rg hi)
  rw [Array.toArray_toList] at fin
  exact ⟨.ref _, _, fin, rfl, q _ _ (I2.hok.fresh (Nat.le_refl _)) rfl⟩
/-- t * k -/
def rRepF (K : PySem.W.Frag) : R2 := fun x y H Q => ∃ l k xs, x = .ref l ∧ y = .int k ∧ SqT K H l xs ∧ xs ≠ [] ∧ 2 ≤ k ∧ k ≤ 1000 ∧ xs.length ≤ 1000 ∧ ∀ p o, H p = none → o.dict = none → Q (.ref p) (upd H p (.frz o (.tup (List.replicate k.toNat xs).flatten)))
theorem op_repF : OpR X (binaryOp .Mult) (rRepF X.K) := fun pins s σ H x y v u Q I rx ry h => by
  obtain ⟨l, k, xs, ex, ey, hT, hne, h1, h2, hz, q⟩ := h
  subst ex; subst ey
  cases rx
  obtain ⟨t, et⟩ := ry
  subst et
  obtain ⟨its, r, ⟨ob, ho, hc, n, hd⟩, hs⟩ := I.tuple hT
  obtain ⟨cls, dd, data, sl⟩ := ob
  have hc : cls = .type "tuple" := hc
  have hd : data = .seq its.toArray n := hd
  subst hc; subst hd
  have len : its.length = xs.length := r.length.symm
  have pos : 0 < xs.length := List.length_pos_iff.mpr hne
  have ne : its.toArray.isEmpty = false := by
    cases its with
    | nil => simp at len; omega
    | cons a b => rfl
  have size : its.toArray.size = xs.length := List.size_toArray ▸ len
  have prod : k.toNat * xs.length ≤ 1000000 := Nat.mul_le_mul (show k.toNat ≤ 1000 by omega) hz
  have prodI : ((its.toArray.size : Nat) : Int) * k ≤ 1000000 := by
    rw [size]
    exact Int.mul_le_mul (show ((xs.length : Nat) : Int) ≤ 1000 by omega) h2 (by omega) (by decide)
  have flat : (List.replicate k.toNat its).flatten.length ≤ sizeLine := by
    rw [PyProof.Rows.lm_len_rep_flat, len, sizeLine_eq]; omega
  have flatX : (List.replicate k.toNat xs).flatten.length ≤ sizeLine := by
    rw [PyProof.Rows.lm_len_rep_flat, sizeLine_eq]; omega
  have g0 : (decide (k < -(2 ^ 63)) || decide (k ≥ 2 ^ 63)) = false := by
    simp only [Bool.or_eq_false_iff, decide_eq_false_iff_not]; omega
  have g1 : (its.toArray.isEmpty || k == 1) = false := by
    rw [ne, Bool.false_or]; exact beq_eq_false_iff_ne.mpr (by omega)
  have g2 : (decide (k ≤ 0) || its.toArray.isEmpty) = false := by
    rw [ne, Bool.or_false]; exact decide_eq_false (by omega)
  have g4 : Builtin.Tuple.tupleTooMany (((its.toArray.size : Nat) : Int) * k) = false := by
    unfold Builtin.Tuple.tupleTooMany; rw [sizeLine_eq]; exact decide_eq_false (by omega)
  have isT : s.TypeIs (.ref l) "tuple" := ⟨_, ho, rfl⟩
  refine wpAny_binaryOp_repeat_ref (T := "tuple") (U := "int") (by decide) isT (fun s' => typeIs_int s' k t) noFill_tuple_mul F.fills_int_mul F.slot_int_rmul repeat_tuple F.slot_int_index.lookup
    (call_meets F.slot_int_rmul (typeIs_int s k t) F.entry_int_rmul (F.args_int_rmul_2 _ _) (int_rmul_tuple k t l its.toArray n dd sl) ⟨ho, rfl, isT, ?_⟩)
  refine call_meets F.slot_tuple_mul isT F.entry_tuple_mul (F.args_tuple_mul_2 _ _) (tuple_mulW l its.toArray n dd sl k t g0 g1 g2 (by omega) g4 (by rw [size_rep, List.size_toArray]; exact flat)) ⟨ho, ?_⟩
  rw [size_rep]
  exact ⟨.ref _, _, tup_laid (t' := s.toks) I flatX (r.rep k.toNat), rfl, q _ _ (I.hok.fresh (Nat.le_refl _)) rfl⟩
end
end WR
namespace WR
open PySem PySem.Spec PyProof.Rows L2

/-- an exception -/
structure Ex where
  c : Nat
  fs : List Str
  vs : List T
inductive Rs (α : Type) where
  | ok (a : α) (st : List O)
  | exc (e : Ex) (st : List O)
  | no
namespace Rs
variable {α β : Type}
def bind (r : Rs α) (k : α → List O → Rs β) : Rs β := match r with
  | .ok a st => k a st
  | .exc e st => .exc e st
  | .no => .no
end Rs
abbrev Ev := List (Option T)
abbrev M (α : Type) := Ev → List O → Rs α
abbrev ME := M T

def RX (Γ : Gam) (F ρ : List Addr) (H : Hp) (e : Ex) (cls : Value) (d : Option Addr) : Prop :=
  cls = .ref (Γ.cad e.c) ∧ ((d = none ∧ e.fs = [] ∧ RVs Γ F ρ H e.vs []) ∨ ∃ (dd : Addr) (fvs : List (Str × V)), d = some dd ∧ dd ∉ F ∧ dd ∉ ρ ∧ H dd = some (.xd fvs) ∧ fvs.map (·.1) = e.fs ∧ RVs Γ F ρ H e.vs (fvs.map (·.2)))

structure SR (Γ : Gam) (F ρ : List Addr) (H : Hp) (st : List O) : Prop where
  rs : RS Γ F ρ H st
  trk : Trk F H
  dis : ∀ a ∈ F, a ∉ ρ
structure RE (Γ : Gam) (F ρ : List Addr) (H : Hp) (σp : Ev) (σ : L2.St) : Prop where
  len : σp.length = σ.length
  at_ : ∀ (i : Nat) (t : T), σp[i]? = some (some t) → ∃ v, σ[i]? = some (some v) ∧ RV Γ F ρ H t v

section
variable {Γ : Gam} {F ρ ρ' : List Addr} {H H' : Hp} {st st' : List O} {σp : Ev} {σ : L2.St}
theorem SR.post (s : SR Γ F ρ H st) (p : Post Γ F ρ H ρ' st' H') : SR Γ F ρ' H' st' := by
  refine ⟨p.rs, p.trk s.rs s.dis s.trk, fun a h z => ?_⟩
  rcases p.grow.mem z with z | z
  · exact s.dis a h z
  · exact s.trk a h z
theorem RE.post (s : SR Γ F ρ H st) (p : Post Γ F ρ H ρ' st' H') (r : RE Γ F ρ H σp σ) : RE Γ F ρ' H' σp σ := ⟨r.len, fun i t e => by
  obtain ⟨v, e1, e2⟩ := r.at_ i t e
  exact ⟨v, e1, p.rv s.rs e2⟩⟩
theorem RX.post (s : SR Γ F ρ H st) (p : Post Γ F ρ H ρ' st' H') {e : Ex} {cls : Value} {d : Option Addr} (r : RX Γ F ρ H e cls d) : RX Γ F ρ' H' e cls d := by
  obtain ⟨e1, r⟩ := r
  refine ⟨e1, ?_⟩
  rcases r with ⟨a, b, c⟩ | ⟨dd, fvs, a, b, c, e, f, g⟩
  · exact .inl ⟨a, b, p.rvs s.rs c⟩
  · refine .inr ⟨dd, fvs, a, b, fun z => ?_, p.keep _ _ e (.inl c), f, p.rvs s.rs g⟩
    rcases p.grow.mem z with z | z
    · exact c z
    · rw [e] at z; cases z
end

/-- what a run asks of what follows -/
def Ran (Γ : Gam) (F : List Addr) {α β : Type} (Rl : List Addr → List O → Hp → α → β → Prop) (r : Rs α) (ρ : List Addr) (st : List O) (H : Hp) (E : XK) (Q : β → Hp → Prop) : Prop := match r with
  | .ok t st' => ∀ v H' ρ', Post Γ F ρ H ρ' st' H' → Rl ρ' st' H' t v → Q v H'
  | .exc e st' => ∀ cls d H' ρ', Post Γ F ρ H ρ' st' H' → RX Γ F ρ' H' e cls d → E cls d H'
  | .no => False
abbrev RT (Γ : Gam) (F : List Addr) : List Addr → List O → Hp → T → V → Prop := fun ρ _ H t v => RV Γ F ρ H t v
abbrev RTs (Γ : Gam) (F : List Addr) : List Addr → List O → Hp → List T → List V → Prop := fun ρ _ H t v => RVs Γ F ρ H t v
abbrev RB : List Addr → List O → Hp → Bool → Bool → Prop := fun _ _ _ a b => a = b
section
variable {Γ : Gam} {F ρ ρ' : List Addr} {H H' : Hp} {st st' : List O} {α β γ δ : Type} {Rl : List Addr → List O → Hp → α → β → Prop} {Rl' : List Addr → List O → Hp → γ → δ → Prop} {E : XK}
theorem Ran.shift {r : Rs α} {Q : β → Hp → Prop} (s : SR Γ F ρ H st) (p : Post Γ F ρ H ρ' st' H') (h : Ran Γ F Rl r ρ st H E Q) : Ran Γ F Rl r ρ' st' H' E Q := by
  cases r with
  | ok t st2 => exact fun v H2 ρ2 p2 rv => h v H2 ρ2 (p.trans s.rs p2) rv
  | exc e st2 => exact fun cls d H2 ρ2 p2 rx => h cls d H2 ρ2 (p.trans s.rs p2) rx
  | no => exact h
theorem Ran.bind {r : Rs α} {k : α → List O → Rs γ} {Q : δ → Hp → Prop} {Q' : β → Hp → Prop} (s : SR Γ F ρ H st) (h : Ran Γ F Rl' (r.bind k) ρ st H E Q)
    (hk : ∀ t st1 v H1 ρ1, r = .ok t st1 → SR Γ F ρ1 H1 st1 → Post Γ F ρ H ρ1 st1 H1 → Rl ρ1 st1 H1 t v → Ran Γ F Rl' (k t st1) ρ1 st1 H1 E Q → Q' v H1) : Ran Γ F Rl r ρ st H E Q' := by
  cases r with
  | ok t st1 => exact fun v H1 ρ1 p rv => hk t st1 v H1 ρ1 rfl (s.post p) p rv (Ran.shift s p h)
  | exc e st1 => exact h
  | no => exact h
theorem Ran.done {t : α} {v : β} {Q : β → Hp → Prop} (s : SR Γ F ρ H st) (h : Ran Γ F Rl (.ok t st) ρ st H E Q) (r : Rl ρ st H t v) : Q v H := h v H ρ (.refl s.rs) r
theorem Ran.ends {t : α} {v : β} {Q : β → Hp → Prop} (h : Ran Γ F Rl (.ok t st') ρ st H E Q) (p : Post Γ F ρ H ρ' st' H') (r : Rl ρ' st' H' t v) : Q v H' := h v H' ρ' p r
end

/-! ### new objects -/
section
variable {Γ : Gam} {F ρ : List Addr} {H H' : Hp} {st : List O}
theorem Same.upd {p : Addr} {o : HO} (h : H p = none) : Same H (upd H p o) := fun b u e => by rw [upd_ne (ne_of_none e h)]; exact e
theorem Same.keep (s : Same H H') : Keep ρ H H' := fun a o e _ => s a o e
theorem RO.grow {F' ρ' : List Addr} {o : O} {a : Addr} (hF : ∀ a ∈ F', a ∈ F ∨ H a = none) (g : Grow ρ ρ' H) (k : KeepW F ρ H H') (e : ∀ u, H a = some u → H' a = some u) (h : RO Γ F ρ H o a) : RO Γ F' ρ' H' o a := by
  cases o with
  | lst xs => obtain ⟨vs, e1, r⟩ := h; exact ⟨vs, e _ e1, RVs.grow hF g k _ _ r⟩
  | dct ks xs => obtain ⟨vs, e1, e2, r⟩ := h; exact ⟨vs, e _ e1, e2, RVs.grow hF g k _ _ r⟩
  | ins c fs xs => obtain ⟨dx, vs, e1, e2, r⟩ := h; exact ⟨dx, vs, e _ e1, e2, RVs.grow hF g k _ _ r⟩
  | dcq ks xs => obtain ⟨ms, vs, e1, e2, e3, e4, e5, e6, r⟩ := h; exact ⟨ms, vs, e _ e1, e2, e3, e4, fun m hm => (e5 m hm).imp (fun ⟨o, e0, z⟩ => ⟨o, e0, k _ _ z (.inr True.intro)⟩) id, e6, RVs.grow hF g k _ _ r⟩
  | hid => obtain ⟨vs, e1⟩ := h; exact ⟨vs, e _ e1⟩
  | tbl n =>
    obtain ⟨e0, ps, e1, e2, e3⟩ := h
    refine ⟨e0, ps, e _ e1, e2, fun pos cv hc => ?_⟩
    obtain ⟨c, c1, c2, c3, c4⟩ := e3 pos cv hc
    refine ⟨c, c1, fun z => ?_, fun z => ?_, k c _ c4 (.inl ⟨c2, c3⟩)⟩
    · rcases hF c z with z | z
      · exact c2 z
      · rw [c4] at z; cases z
    · rcases g.mem z with z | z
      · exact c3 z
      · rw [c4] at z; cases z
theorem RS.same (s : RS Γ F ρ H st) (h : Same H H') : RS Γ F ρ H' st := ⟨s.len, s.nd, fun n o a e1 e2 => RO.grow (fun _ z => .inl z) .refl (Keep.w (Same.keep h)) (fun u e => h _ _ e) (s.at_ n o a e1 e2)⟩
theorem Post.same (s : RS Γ F ρ H st) (h : Same H H') : Post Γ F ρ H ρ st H' := ⟨.refl, Same.keep h, s.same h⟩
theorem Post.laid {p : Addr} {o : HO} (s : RS Γ F ρ H st) (h : H p = none) : Post Γ F ρ H ρ st (upd H p o) := .same s (Same.upd h)
/-- a new object of one's own -/
theorem Post.alloc {p : Addr} {u : HO} {o : O} (s : RS Γ F ρ H st) (h : H p = none) (r : RO Γ F (ρ ++ [p]) (upd H p u) o p) : Post Γ F ρ H (ρ ++ [p]) (st ++ [o]) (upd H p u) := by
  have np : p ∉ ρ := fun z => by
    obtain ⟨u, e, _⟩ := s.mem z
    rw [h] at e; cases e
  have g : Grow ρ (ρ ++ [p]) H := ⟨[p], rfl, fun a z => by rw [List.mem_singleton.mp z]; exact h⟩
  refine ⟨g, Same.keep (Same.upd h), ⟨by simp [s.len], ?_, fun n o' a e1 e2 => ?_⟩⟩
  · rw [List.nodup_append]
    exact ⟨s.nd, by simp, fun a ha b hb => by rw [List.mem_singleton.mp hb]; exact fun z => np (z ▸ ha)⟩
  · by_cases hn : n < st.length
    · rw [List.getElem?_append_left hn] at e1
      rw [List.getElem?_append_left (by rw [s.len]; exact hn)] at e2
      exact RO.grow (fun _ z => .inl z) g (Keep.w (Same.keep (Same.upd h))) (fun w e => Same.upd h _ _ e) (s.at_ n o' a e1 e2)
    · have hl : n = st.length := by
        have := (List.getElem?_eq_some_iff.mp e1).1
        simp at this; omega
      subst hl
      rw [List.getElem?_append_right (by rw [s.len]; exact Nat.le_refl _)] at e2
      simp [s.len] at e1 e2
      subst e1; subst e2
      exact r
/-- an object of one's own is written -/
theorem Keep.write {a : Addr} {u : HO} (ha : a ∈ ρ) (hu : ∀ u0, H a = some u0 → ¬ Tu u0) : Keep ρ H (upd H a u) := fun b o e c => by
  have : b ≠ a := fun z => by
    subst z
    rcases c with c | c
    · exact c ha
    · exact hu _ e c
  rw [upd_ne this]; exact e
theorem Post.write {n : Nat} {a : Addr} {u : HO} {o : O} (s : RS Γ F ρ H st) (e : ρ[n]? = some a) (r : RO Γ F ρ (upd H a u) o a) : Post Γ F ρ H ρ (st.set n o) (upd H a u) := by
  have ha : a ∈ ρ := List.mem_of_getElem? e
  obtain ⟨w, e1, h1, h2⟩ := s.mem ha
  have k : Keep ρ H (upd H a u) := Keep.write ha fun u0 z => by rw [e1] at z; cases z; exact h1
  refine ⟨.refl, k, ⟨by simp [s.len], s.nd, fun m o' b z1 z2 => ?_⟩⟩
  by_cases hm : m = n
  · subst hm
    rw [e] at z2; cases z2
    have hlt : m < st.length := by rw [← s.len]; exact (List.getElem?_eq_some_iff.mp e).1
    rw [List.getElem?_set_self hlt] at z1; cases z1
    exact r
  · rw [List.getElem?_set_ne (Ne.symm hm)] at z1
    have nb : b ≠ a := fun z => by
      subst z
      obtain ⟨i1, j1⟩ := List.getElem?_eq_some_iff.mp e
      obtain ⟨i2, j2⟩ := List.getElem?_eq_some_iff.mp z2
      exact hm ((List.getElem_inj s.nd).mp (j2.trans j1.symm))
    exact RO.grow (fun _ z => .inl z) .refl (Keep.w k) (fun w e => by rw [upd_ne nb]; exact e) (s.at_ m o' b z1 z2)
/-- views of an object that is laid anew -/
theorem RVs.laid {p : Addr} {o : HO} (s : RS Γ F ρ H st) (h : H p = none) {xs : List T} {vs : List V} (r : RVs Γ F ρ H xs vs) : RVs Γ F ρ (upd H p o) xs vs := (Post.laid s h).rvs s r
theorem SR.fresh (s : SR Γ F ρ H st) {p : Addr} (h : H p = none) : p ∉ F ∧ p ∉ ρ := ⟨fun z => s.trk p z h, fun z => by
  obtain ⟨u, e, _⟩ := s.rs.mem z
  rw [h] at e; cases e⟩
theorem RV.tupNew (s : SR Γ F ρ H st) {p : Addr} (h : H p = none) {o : Obj} (ho : o.dict = none) {xs : List T} {vs : List V} (r : RVs Γ F ρ H xs vs) : RV Γ F ρ (upd H p (.frz o (.tup vs))) (.tup xs) (.ref p) := ⟨p, vs, rfl, .inl ⟨o, ho, upd_same⟩, r.laid s.rs h⟩
theorem RV.lstNew (s : SR Γ F ρ H st) {p : Addr} (h : H p = none) {xs : List T} {vs : List V} (r : RVs Γ F ρ H xs vs) : RV Γ F ρ (upd H p (.lst vs)) (.lst xs) (.ref p) :=
  ⟨p, vs, rfl, (s.fresh h).1, (s.fresh h).2, upd_same, r.laid s.rs h⟩
end

/-! ### judgements -/
def tEv (Γ : Gam) (m : ME) (W : WX) : TE := fun σ H Q => ∃ (σp : Ev) (F ρ : List Addr) (st : List O), SR Γ F ρ H st ∧ RE Γ F ρ H σp σ ∧ Ran Γ F (RT Γ F) (m σp st) ρ st H (fun cls d H' => W cls d σ H') Q
def tTv (Γ : Gam) (m : M Bool) (W : WX) : TT := fun σ H Q => ∃ (σp : Ev) (F ρ : List Addr) (st : List O), SR Γ F ρ H st ∧ RE Γ F ρ H σp σ ∧ Ran Γ F RB (m σp st) ρ st H (fun cls d H' => W cls d σ H') Q
def tAv (Γ : Gam) (m : M (List T)) (W : WX) : TA := fun σ H Q => ∃ (σp : Ev) (F ρ : List Addr) (st : List O), SR Γ F ρ H st ∧ RE Γ F ρ H σp σ ∧ Ran Γ F (RTs Γ F) (m σp st) ρ st H (fun cls d H' => W cls d σ H') Q
def SE (Γ : Gam) (X : Cx) (W : WX) (e : Expr) (m : ME) : Prop := PE X e (tEv Γ m W)
def STt (Γ : Gam) (X : Cx) (W : WX) (e : Expr) (m : M Bool) : Prop := PT X e (tTv Γ m W)
def SW (Γ : Gam) (X : Cx) (W : WX) (e : Expr) (m : M Bool) : Prop := PW X e (tTv Γ m W)
def SA (Γ : Gam) (X : Cx) (W : WX) (es : List Expr) (m : M (List T)) : Prop := PA X es (tAv Γ m W)
section
variable {X : Cx} {e : Expr} {es : List Expr} {t t' : TE} {u u' : TT} {w w' : TA}
theorem _root_.L2.PE.imp (h : PE X e t) (i : ∀ σ H Q, t' σ H Q → t σ H Q) : PE X e t' := ⟨fun pins s σ H Q I q => h.run pins s σ H Q I (i σ H Q q)⟩
theorem _root_.L2.PT.imp (h : PT X e u) (i : ∀ σ H Q, u' σ H Q → u σ H Q) : PT X e u' := ⟨fun pins s σ H Q I q => h.run pins s σ H Q I (i σ H Q q)⟩
theorem _root_.L2.PW.imp (h : PW X e u) (i : ∀ σ H Q, u' σ H Q → u σ H Q) : PW X e u' := ⟨fun wh pins s σ H Q I q => h.run wh pins s σ H Q I (i σ H Q q)⟩
theorem _root_.L2.PA.imp (h : PA X es w) (i : ∀ σ H Q, w' σ H Q → w σ H Q) : PA X es w' := ⟨fun pos pins s σ H Q I q => h.run pos pins s σ H Q I (i σ H Q q)⟩
end

/-! ### names, constants -/
def mVar (i : Nat) : ME := fun σ st => match σ[i]? with
  | some (some t) => .ok t st
  | _ => .no
def mC (t : T) : ME := fun _ st => .ok t st
section
variable {Γ : Gam} {X : Cx} {W : WX}
theorem sE_var (i : Nat) {x : Str} {pos : Pos} (hN : X.N[i]? = some x := by rfl) (hv : Vis X.env.scope x := by first | exact Or.inl rfl | exact Or.inr (Or.inl rfl) | exact Or.inr (Or.inr rfl)) (hd : (x == ("__debug__" : Str)) = false := by decide) (hcd : (x == ("__classdict__" : Str)) = false := by decide) : SE Γ X W (.Name x pos) (mVar i) :=
  (pe_var hN hv hd hcd).imp fun σ H Q ⟨σp, F, ρ, st, s, re, h⟩ => by
    unfold mVar at h
    cases e : σp[i]? with
    | none => rw [e] at h; exact h.elim
    | some o =>
      cases o with
      | none => rw [e] at h; exact h.elim
      | some t =>
        rw [e] at h
        obtain ⟨v, e1, r⟩ := re.at_ i t e
        exact ⟨v, e1, Ran.done s h r⟩
theorem sE_int {i : Int} {j pos} : SE Γ X W (.Constant (.int i) j pos) (mC (.int i)) := pe_int.imp fun σ H Q ⟨σp, F, ρ, st, s, re, h⟩ => Ran.done s h rfl
theorem sE_bl {b : Bool} {j pos} : SE Γ X W (.Constant (.bool b) j pos) (mC (.bl b)) := pe_bl.imp fun σ H Q ⟨σp, F, ρ, st, s, re, h⟩ => Ran.done s h rfl
theorem sE_non {j pos} : SE Γ X W (.Constant .none j pos) (mC .non) := pe_non.imp fun σ H Q ⟨σp, F, ρ, st, s, re, h⟩ => Ran.done s h rfl
theorem sE_str {x : Str} {j pos} : SE Γ X W (.Constant (.str x) j pos) (mC (.str x)) := pe_str.imp fun σ H Q ⟨σp, F, ρ, st, s, re, h⟩ => Ran.done s h rfl
/-- a constant of the module: a text or an int, a tuple, a def -/
theorem sE_glob {x : Str} {u : Value} {v : V} {t : T} {pos : Pos} (hm : X.mg x = some u) (r : RelV v u) (rt : ∀ F ρ H st, SR Γ F ρ H st → RV Γ F ρ H t v) (hg : Gl X x := by rfl) (hd : (x == ("__debug__" : Str)) = false := by decide) : SE Γ X W (.Name x pos) (mC t) :=
  (pe_glob hg hm r hd).imp fun σ H Q ⟨σp, F, ρ, st, s, re, h⟩ => Ran.done s h (rt _ _ _ _ s)
end

/-! ### argument lists, displays -/
def mNil : M (List T) := fun _ st => .ok [] st
def mCons (a : ME) (r : M (List T)) : M (List T) := fun σ st => (a σ st).bind fun x st1 => (r σ st1).bind fun xs st2 => .ok (x :: xs) st2
def sizeOk (n : Nat) : Bool := Nat.ble n 16777216
theorem sizeOk_le {n : Nat} (h : sizeOk n = true) : n ≤ sizeLine := by
  rw [sizeLine_eq]; exact Nat.le_of_ble_eq_true h
def mTup (a : M (List T)) : ME := fun σ st => (a σ st).bind fun xs st1 => match sizeOk xs.length with
  | true => .ok (.tup xs) st1
  | false => .no
def mLst (a : M (List T)) : ME := fun σ st => (a σ st).bind fun xs st1 => match sizeOk xs.length with
  | true => .ok (.lst xs) st1
  | false => .no
/-- a list that will be changed -/
def mLstM (a : M (List T)) : ME := fun σ st => (a σ st).bind fun xs st1 => match sizeOk xs.length with
  | true => .ok (.ref st1.length) (st1 ++ [.lst xs])
  | false => .no
section
variable {Γ : Gam} {X : Cx} {W : WX} {e : Expr} {es : List Expr} {a : ME} {m : M (List T)} {pos : Pos}
theorem sA_nil : SA Γ X W [] mNil := pa_nil.imp fun σ H Q ⟨σp, F, ρ, st, s, re, h⟩ => Ran.done s h rfl
theorem sA_cons (ha : SE Γ X W e a) (hr : SA Γ X W es m) (hs : starEach (e :: es) X.env = (false, eval e X.env) :: starEach es X.env := by rfl) : SA Γ X W (e :: es) (mCons a m) :=
  (pa_cons ha hr hs).imp fun σ H Q ⟨σp, F, ρ, st, s, re, h⟩ => ⟨σp, F, ρ, st, s, re, Ran.bind s h fun t st1 v H1 ρ1 _ s1 p1 r1 h1 =>
    ⟨σp, F, ρ1, st1, s1, re.post s p1, Ran.bind s1 h1 fun ts st2 vs H2 ρ2 _ s2 p2 r2 h2 => Ran.done s2 h2 ⟨v, vs, rfl, p2.rv s1.rs r1, r2⟩⟩⟩
theorem sE_tup {k : Nat} (ha : SA Γ X W es m) : SE Γ X W (.Tuple es k pos) (mTup m) :=
  (pe_tupF ha).imp fun σ H Q ⟨σp, F, ρ, st, s, re, h⟩ => ⟨σp, F, ρ, st, s, re, Ran.bind s h fun xs st1 vs H1 ρ1 _ s1 p1 r1 h1 => by
    cases e1 : sizeOk xs.length with
    | false => rw [e1] at h1; exact h1.elim
    | true =>
      rw [e1] at h1
      exact ⟨by rw [← r1.length]; exact sizeOk_le e1, fun p o hp ho => Ran.ends h1 (.laid s1.rs hp) (RV.tupNew s1 hp ho r1)⟩⟩
theorem sE_lst (ha : SA Γ X W es m) : SE Γ X W (.List es pos) (mLst m) :=
  (pe_lst ha).imp fun σ H Q ⟨σp, F, ρ, st, s, re, h⟩ => ⟨σp, F, ρ, st, s, re, Ran.bind s h fun xs st1 vs H1 ρ1 _ s1 p1 r1 h1 => by
    cases e1 : sizeOk xs.length with
    | false => rw [e1] at h1; exact h1.elim
    | true =>
      rw [e1] at h1
      exact ⟨by rw [← r1.length]; exact sizeOk_le e1, fun p hp => Ran.ends h1 (.laid s1.rs hp) (RV.lstNew s1 hp r1)⟩⟩
theorem RS.refNew {F ρ : List Addr} {H : Hp} {st : List O} (s : RS Γ F ρ H st) {p : Addr} {H' : Hp} : RV Γ F (ρ ++ [p]) H' (.ref st.length) (.ref p) := ⟨p, rfl, by rw [List.getElem?_append_right (by rw [s.len]; exact Nat.le_refl _)]; simp [s.len]⟩
theorem RVs.allocs {F ρ : List Addr} {H : Hp} {st : List O} (s : RS Γ F ρ H st) {p : Addr} {o : HO} (h : H p = none) {xs : List T} {vs : List V} (r : RVs Γ F ρ H xs vs) : RVs Γ F (ρ ++ [p]) (upd H p o) xs vs :=
  RVs.grow (fun _ z => .inl z) ⟨[p], rfl, fun a z => by rw [List.mem_singleton.mp z]; exact h⟩ (Keep.w (Same.keep (Same.upd h))) _ _ r
theorem sE_lstM (ha : SA Γ X W es m) : SE Γ X W (.List es pos) (mLstM m) :=
  (pe_lst ha).imp fun σ H Q ⟨σp, F, ρ, st, s, re, h⟩ => ⟨σp, F, ρ, st, s, re, Ran.bind s h fun xs st1 vs H1 ρ1 _ s1 p1 r1 h1 => by
    cases e1 : sizeOk xs.length with
    | false => rw [e1] at h1; exact h1.elim
    | true =>
      rw [e1] at h1
      exact ⟨by rw [← r1.length]; exact sizeOk_le e1, fun p hp => Ran.ends h1 (.alloc s1.rs hp ⟨vs, upd_same, r1.allocs s1.rs hp⟩) s1.rs.refNew⟩⟩
end

/-! ### operators -/
/-- what an operator's rule asks is had by a function of trees -/
def OpOk (Γ : Gam) (r : R2) (f : T → T → List O → Rs T) : Prop :=
  ∀ (F ρ : List Addr) (st : List O) (H : Hp) (x y : V) (a b : T) (Q : VK) (E : XK), SR Γ F ρ H st → RV Γ F ρ H a x → RV Γ F ρ H b y → Ran Γ F (RT Γ F) (f a b st) ρ st H E Q → r x y H Q
def mOp (f : T → T → List O → Rs T) (a b : ME) : ME := fun σ st => (a σ st).bind fun x st1 => (b σ st1).bind fun y st2 => f x y st2
def mTst (a : ME) : M Bool := fun σ st => (a σ st).bind fun x st1 => match x with
  | .bl b => .ok b st1
  | _ => .no
section
variable {Γ : Gam} {X : Cx} {W : WX} {e d : Expr} {a b : ME} {pos : Pos} {r : R2} {f : T → T → List O → Rs T}
theorem tOp_imp (hf : OpOk Γ r f) {σ : L2.St} {H : Hp} {Q : VK} (h : tEv Γ (mOp f a b) W σ H Q) : tOp r (tEv Γ a W) (tEv Γ b W) σ H Q := by
  obtain ⟨σp, F, ρ, st, s, re, h⟩ := h
  exact ⟨σp, F, ρ, st, s, re, Ran.bind s h fun t st1 v H1 ρ1 _ s1 p1 r1 h1 => ⟨σp, F, ρ1, st1, s1, re.post s p1, Ran.bind s1 h1 fun t2 st2 v2 H2 ρ2 _ s2 p2 r2 h2 => hf F ρ2 st2 H2 v v2 t t2 Q _ s2 (p2.rv s1.rs r1) r2 h2⟩⟩
theorem sE_op {op : Operator} (ho : OpR X (binaryOp op) r) (hf : OpOk Γ r f) (ha : SE Γ X W e a) (hb : SE Γ X W d b) : SE Γ X W (.BinOp e op d pos) (mOp f a b) := (pe_op ho ha hb).imp fun _ _ _ h => tOp_imp hf h
theorem sE_cmp {op : CmpOp} (ho : OpR X (compareOp op) r) (hf : OpOk Γ r f) (ha : SE Γ X W e a) (hb : SE Γ X W d b) (hm : behindInMarks op d = false := by first | exact nomark _ | rfl) : SE Γ X W (.Compare e [op] [d] pos) (mOp f a b) := (pe_cmpR ho ha hb hm).imp fun _ _ _ h => tOp_imp hf h
theorem tTest_imp {t : TE} (ht : ∀ σ H Q, tEv Γ a W σ H Q → t σ H Q) {σ : L2.St} {H : Hp} {Q : Bool → Hp → Prop} (h : tTv Γ (mTst a) W σ H Q) : tTest t σ H Q := by
  obtain ⟨σp, F, ρ, st, s, re, h⟩ := h
  refine ht _ _ _ ⟨σp, F, ρ, st, s, re, Ran.bind s h fun t st1 v H1 ρ1 _ s1 p1 r1 h1 => ?_⟩
  cases t with
  | bl k => exact ⟨k, r1, Ran.done s1 h1 rfl⟩
  | _ => exact h1.elim
theorem sT_cmp {op : CmpOp} (ho : OpR X (compareOp op) r) (hf : OpOk Γ r f) (ha : SE Γ X W e a) (hb : SE Γ X W d b) (hm : behindInMarks op d = false := by first | exact nomark _ | rfl) : STt Γ X W (.Compare e [op] [d] pos) (mTst (mOp f a b)) :=
  (pt_cmpR ho ha hb hm).imp fun _ _ _ h => tTest_imp (fun _ _ _ h => tOp_imp hf h) h
/-- a value that is a bool, as a test -/
theorem sT_val (ha : SE Γ X W e a) (he : ∀ whole, isTrue e X.env whole = (do let v ← whole; standAt e.pos; holding [v] (truthy v)) := by intro _; rfl) : STt Γ X W e (mTst a) :=
  (pt_val ha he).imp fun _ _ _ h => tTest_imp (fun _ _ _ h => h) h
end

/-! ### and, or, not, a if c else b -/
def mAnd (a b : M Bool) : M Bool := fun σ st => (a σ st).bind fun c st1 => match c with
  | true => b σ st1
  | false => .ok false st1
def mOr (a b : M Bool) : M Bool := fun σ st => (a σ st).bind fun c st1 => match c with
  | true => .ok true st1
  | false => b σ st1
def mNot (a : M Bool) : M Bool := fun σ st => (a σ st).bind fun c st1 => .ok (!c) st1
def mIf (c : M Bool) (a b : ME) : ME := fun σ st => (c σ st).bind fun k st1 => match k with
  | true => a σ st1
  | false => b σ st1
/-- the value of a test -/
def mB (a : M Bool) : ME := fun σ st => (a σ st).bind fun c st1 => .ok (.bl c) st1
section
variable {Γ : Gam} {X : Cx} {W : WX} {e d c : Expr} {rest : List Expr} {a b : ME} {m n : M Bool} {pos : Pos}
theorem sT_w (h : SW Γ X W e m) : STt Γ X W e m := PW.pt h
theorem sW_and1 (h : STt Γ X W e m) : SW Γ X W (.BoolOp .And [e] pos) m := pw_and1 h
theorem sW_or1 (h : STt Γ X W e m) : SW Γ X W (.BoolOp .Or [e] pos) m := pw_or1 h
theorem sW_and (h : STt Γ X W e m) (h2 : SW Γ X W (.BoolOp .And (d :: rest) pos) n) : SW Γ X W (.BoolOp .And (e :: d :: rest) pos) (mAnd m n) :=
  (pw_and h h2).imp fun σ H Q ⟨σp, F, ρ, st, s, re, h⟩ => ⟨σp, F, ρ, st, s, re, Ran.bind s h fun t st1 v H1 ρ1 _ s1 p1 r1 h1 => by
    cases r1
    cases t with
    | true => exact iteT ⟨σp, F, ρ1, st1, s1, re.post s p1, h1⟩
    | false => exact iteF (Ran.done s1 h1 rfl)⟩
theorem sW_or (h : STt Γ X W e m) (h2 : SW Γ X W (.BoolOp .Or (d :: rest) pos) n) : SW Γ X W (.BoolOp .Or (e :: d :: rest) pos) (mOr m n) :=
  (pw_or h h2).imp fun σ H Q ⟨σp, F, ρ, st, s, re, h⟩ => ⟨σp, F, ρ, st, s, re, Ran.bind s h fun t st1 v H1 ρ1 _ s1 p1 r1 h1 => by
    cases r1
    cases t with
    | true => exact iteT (Ran.done s1 h1 rfl)
    | false => exact iteF ⟨σp, F, ρ1, st1, s1, re.post s p1, h1⟩⟩
theorem sT_not (h : STt Γ X W e m) : STt Γ X W (.UnaryOp .Not e pos) (mNot m) :=
  (pt_not h).imp fun σ H Q ⟨σp, F, ρ, st, s, re, h⟩ => ⟨σp, F, ρ, st, s, re, Ran.bind s h fun t st1 v H1 ρ1 _ s1 p1 r1 h1 => by
    cases r1
    exact Ran.done s1 h1 rfl⟩
theorem sE_if (hc : STt Γ X W c m) (ha : SE Γ X W e a) (hb : SE Γ X W d b) : SE Γ X W (.IfExp c e d pos) (mIf m a b) :=
  (pe_ifExp hc ha hb).imp fun σ H Q ⟨σp, F, ρ, st, s, re, h⟩ => ⟨σp, F, ρ, st, s, re, Ran.bind s h fun t st1 v H1 ρ1 _ s1 p1 r1 h1 => by
    cases r1
    cases t with
    | true => exact iteT ⟨σp, F, ρ1, st1, s1, re.post s p1, h1⟩
    | false => exact iteF ⟨σp, F, ρ1, st1, s1, re.post s p1, h1⟩⟩
/-- and, or, not as values; all but the last one bools -/
theorem sE_and1 {op : BoolOp} (h : SE Γ X W e a) : SE Γ X W (.BoolOp op [e] pos) a := pe_one h
def mAndV (a b : ME) : ME := fun σ st => (a σ st).bind fun x st1 => match x with
  | .bl true => b σ st1
  | .bl false => .ok (.bl false) st1
  | _ => .no
def mOrV (a b : ME) : ME := fun σ st => (a σ st).bind fun x st1 => match x with
  | .bl true => .ok (.bl true) st1
  | .bl false => b σ st1
  | _ => .no
def mNotV (a : ME) : ME := fun σ st => (a σ st).bind fun x st1 => match x with
  | .bl c => .ok (.bl (!c)) st1
  | _ => .no
theorem sE_and (h : SE Γ X W e a) (h2 : SE Γ X W (.BoolOp .And (d :: rest) pos) b) : SE Γ X W (.BoolOp .And (e :: d :: rest) pos) (mAndV a b) :=
  (pe_and h h2).imp fun σ H Q ⟨σp, F, ρ, st, s, re, h⟩ => ⟨σp, F, ρ, st, s, re, Ran.bind s h fun t st1 v H1 ρ1 _ s1 p1 r1 h1 => by
    cases t with
    | bl k =>
      refine ⟨k, r1, ?_⟩
      cases k with
      | true => exact iteT ⟨σp, F, ρ1, st1, s1, re.post s p1, h1⟩
      | false => exact iteF (Ran.done s1 h1 rfl)
    | _ => exact h1.elim⟩
theorem sE_or (h : SE Γ X W e a) (h2 : SE Γ X W (.BoolOp .Or (d :: rest) pos) b) : SE Γ X W (.BoolOp .Or (e :: d :: rest) pos) (mOrV a b) :=
  (pe_or h h2).imp fun σ H Q ⟨σp, F, ρ, st, s, re, h⟩ => ⟨σp, F, ρ, st, s, re, Ran.bind s h fun t st1 v H1 ρ1 _ s1 p1 r1 h1 => by
    cases t with
    | bl k =>
      refine ⟨k, r1, ?_⟩
      cases k with
      | true => exact iteT (Ran.done s1 h1 rfl)
      | false => exact iteF ⟨σp, F, ρ1, st1, s1, re.post s p1, h1⟩
    | _ => exact h1.elim⟩
theorem sE_not (h : SE Γ X W e a) : SE Γ X W (.UnaryOp .Not e pos) (mNotV a) :=
  (pe_not h).imp fun σ H Q ⟨σp, F, ρ, st, s, re, h⟩ => ⟨σp, F, ρ, st, s, re, Ran.bind s h fun t st1 v H1 ρ1 _ s1 p1 r1 h1 => by
    cases t with
    | bl k => exact ⟨k, r1, Ran.done s1 h1 rfl⟩
    | _ => exact h1.elim⟩
end
end WR
namespace WR
open PySem PySem.Spec PyProof.Rows L2

/-! ### trees as data, for == -/
mutual
def pd (st : List O) : Nat → T → Option PyData
  | 0, _ => none
  | n + 1, t => match t with
    | .non => some .none
    | .bl b => some (.bool b)
    | .int i => some (.int i)
    | .str x => some (.str x)
    | .tup xs => match pds st n xs with
      | some ds => some (.tuple ds)
      | none => none
    | .lst xs => match pds st n xs with
      | some ds => some (.list ds)
      | none => none
    | .ref i => match st[i]? with
      | some (.lst xs) => match pds st n xs with
        | some ds => some (.list ds)
        | none => none
      | _ => none
    | _ => none
def pds (st : List O) : Nat → List T → Option (List PyData)
  | 0, _ => none
  | n + 1, ts => match ts with
    | [] => some []
    | t :: r => match pd st n t with
      | some d => match pds st n r with
        | some ds => some (d :: ds)
        | none => none
      | none => none
end
section
variable {Γ : Gam} {F ρ : List Addr} {H : Hp} {st : List O}
theorem RO.list {xs : List T} {a : Addr} (h : RO Γ F ρ H (.lst xs) a) : ∃ vs, H a = some (.lst vs) ∧ RVs Γ F ρ H xs vs := h
mutual
theorem pd_dp (s : RS Γ F ρ H st) : ∀ (n : Nat) (t : T) (v : V) (d : PyData), pd st n t = some d → RV Γ F ρ H t v → Dp Γ.K H v d
  | 0, _, _, _, e, _ => by simp [pd] at e
  | n + 1, t, v, d, e, r => by
    cases t with
    | non => rw [show v = _ from r]; rw [pd] at e; cases e; exact .non
    | bl b => rw [show v = _ from r]; rw [pd] at e; cases e; exact .bl b
    | int i => rw [show v = _ from r]; rw [pd] at e; cases e; exact .int i
    | str x => rw [show v = _ from r]; rw [pd] at e; cases e; exact .str x
    | tup xs =>
      obtain ⟨a, vs, rfl, h1, h2⟩ := r
      simp only [pd] at e
      cases q : pds st n xs with
      | none => rw [q] at e; cases e
      | some ds => rw [q] at e; cases e; exact .tup (tupK_sq h1) (pds_dp s n xs vs ds q h2)
    | lst xs =>
      obtain ⟨a, vs, rfl, _, _, h1, h2⟩ := r
      simp only [pd] at e
      cases q : pds st n xs with
      | none => rw [q] at e; cases e
      | some ds => rw [q] at e; cases e; exact .lst (.of h1) (pds_dp s n xs vs ds q h2)
    | ref i =>
      obtain ⟨a, rfl, h1⟩ := r
      simp only [pd] at e
      cases q : st[i]? with
      | none => rw [q] at e; cases e
      | some o =>
        cases o with
        | lst xs =>
          rw [q] at e
          obtain ⟨vs, h3, h2⟩ := RO.list (s.at_ i _ a q h1)
          cases q2 : pds st n xs with
          | none => simp only [q2] at e; cases e
          | some ds => simp only [q2] at e; cases e; exact .lst (.of h3) (pds_dp s n xs vs ds q2 h2)
        | _ => rw [q] at e; cases e
    | _ => simp [pd] at e
theorem pds_dp (s : RS Γ F ρ H st) : ∀ (n : Nat) (ts : List T) (vs : List V) (ds : List PyData), pds st n ts = some ds → RVs Γ F ρ H ts vs → DpAll Γ.K H vs ds
  | 0, _, _, _, e, _ => by simp [pds] at e
  | n + 1, ts, vs, ds, e, r => by
    cases ts with
    | nil => rw [show vs = _ from r]; rw [pds] at e; cases e; exact .nil
    | cons t ts =>
      obtain ⟨v, vr, rfl, r1, r2⟩ := r
      simp only [pds] at e
      cases q : pd st n t with
      | none => rw [q] at e; cases e
      | some d =>
        rw [q] at e
        cases q2 : pds st n ts with
        | none => simp only [q2] at e; cases e
        | some dr => simp only [q2] at e; cases e; exact .cons (pd_dp s n t v d q r1) (pds_dp s n ts vr dr q2 r2)
end
end
/-- == by data -/
def eqD (st : List O) (a b : T) : Option Bool := match pd st 100 a, pd st 100 b with
  | some d, some e => match SeqAt.shaped d && SeqAt.shaped e with
    | true => some (PyData.eqv d e)
    | false => none
  | _, _ => none
def eqT (a b : T) (st : List O) : Rs T := match a, b with
  | .int i, .int j => .ok (.bl (decide (i = j))) st
  | .bl i, .bl j => .ok (.bl (decide (i = j))) st
  | .str x, .str y => .ok (.bl (x == y)) st
  | a, b => match eqD st a b with
    | some k => .ok (.bl k) st
    | none => .no
def neT (a b : T) (st : List O) : Rs T := match a, b with
  | .int i, .int j => .ok (.bl (!decide (i = j))) st
  | .bl i, .bl j => .ok (.bl (!decide (i = j))) st
  | .str x, .str y => .ok (.bl (!(x == y))) st
  | a, b => match eqD st a b with
    | some k => .ok (.bl (!k)) st
    | none => .no
theorem OpOk.or {Γ : Gam} {r r' : R2} {f : T → T → List O → Rs T} (h : ∀ (F ρ : List Addr) (st : List O) (H : Hp) (x y : V) (a b : T) (Q : VK) (E : XK), SR Γ F ρ H st → RV Γ F ρ H a x → RV Γ F ρ H b y → Ran Γ F (RT Γ F) (f a b st) ρ st H E Q → r x y H Q ∨ r' x y H Q) : OpOk Γ (fun x y H Q => r x y H Q ∨ r' x y H Q) f := h
section
variable {Γ : Gam} {X : Cx} {W : WX}
theorem eqD_ok {F ρ : List Addr} {H : Hp} {st : List O} {a b : T} {x y : V} {k : Bool} (s : SR Γ F ρ H st) (ra : RV Γ F ρ H a x) (rb : RV Γ F ρ H b y) (e : eqD st a b = some k) : ∃ d e, Dp Γ.K H x d ∧ Dp Γ.K H y e ∧ SeqAt.shaped d = true ∧ SeqAt.shaped e = true ∧ PyData.eqv d e = k := by
  unfold eqD at e
  cases q : pd st 100 a with
  | none => rw [q] at e; cases e
  | some d =>
    cases q2 : pd st 100 b with
    | none => rw [q, q2] at e; cases e
    | some d2 =>
      rw [q, q2] at e
      cases q3 : (SeqAt.shaped d && SeqAt.shaped d2) with
      | false => simp only [q3] at e; cases e
      | true =>
        simp only [q3] at e
        cases e
        obtain ⟨h1, h2⟩ := Bool.and_eq_true_iff.mp q3
        exact ⟨d, d2, pd_dp s.rs _ _ _ _ q ra, pd_dp s.rs _ _ _ _ q2 rb, h1, h2, rfl⟩
def rEqA (K : PySem.W.Frag) : R2 := fun x y H Q => rEqD K x y H Q ∨ rEq x y H Q
def rNeA (K : PySem.W.Frag) : R2 := fun x y H Q => rNeD K x y H Q ∨ rNe x y H Q
theorem op_eqA (hu : X.A.units + 64 < cLine) : OpR X (compareOp .Eq) (rEqA X.K) := (op_eqD hu).or op_eq
theorem op_neA (hu : X.A.units + 64 < cLine) : OpR X (compareOp .NotEq) (rNeA X.K) := (op_neD hu).or op_ne
theorem ok_eq : OpOk Γ (rEqA Γ.K) eqT := fun F ρ st H x y a b Q E s ra rb h => by
  have gen : ∀ k, eqD st a b = some k → Ran Γ F (RT Γ F) (.ok (.bl k) st) ρ st H E Q → rEqD Γ.K x y H Q := fun k e h => by
    obtain ⟨d, d2, h1, h2, h3, h4, h5⟩ := eqD_ok s ra rb e
    exact ⟨d, d2, h1, h2, h3, h4, Ran.done s h (by rw [h5]; rfl)⟩
  have fb : Ran Γ F (RT Γ F) (match eqD st a b with | some k => .ok (.bl k) st | none => .no) ρ st H E Q → rEqA Γ.K x y H Q := fun h => by
    cases e : eqD st a b with
    | none => rw [e] at h; exact h.elim
    | some k => rw [e] at h; exact .inl (gen k e h)
  unfold eqT at h
  split at h
  · rw [show x = _ from ra, show y = _ from rb]
    exact .inr ⟨rfl, Ran.done s h (by show V.bl _ = V.bl _; congr 1; rw [dec_int, Bool.beq_eq_decide_eq])⟩
  · rw [show x = _ from ra, show y = _ from rb]
    exact .inr ⟨rfl, Ran.done s h (by show V.bl _ = V.bl _; congr 1; rw [dec_bl, Bool.beq_eq_decide_eq])⟩
  · rw [show x = _ from ra, show y = _ from rb]
    exact .inr ⟨rfl, Ran.done s h (by show V.bl _ = V.bl _; congr 1; rw [dec_str])⟩
  · exact fb h
theorem ok_ne : OpOk Γ (rNeA Γ.K) neT := fun F ρ st H x y a b Q E s ra rb h => by
  have gen : ∀ k, eqD st a b = some k → Ran Γ F (RT Γ F) (.ok (.bl (!k)) st) ρ st H E Q → rNeD Γ.K x y H Q := fun k e h => by
    obtain ⟨d, d2, h1, h2, h3, h4, h5⟩ := eqD_ok s ra rb e
    exact ⟨d, d2, h1, h2, h3, h4, Ran.done s h (by rw [h5]; rfl)⟩
  have fb : Ran Γ F (RT Γ F) (match eqD st a b with | some k => .ok (.bl (!k)) st | none => .no) ρ st H E Q → rNeA Γ.K x y H Q := fun h => by
    cases e : eqD st a b with
    | none => rw [e] at h; exact h.elim
    | some k => rw [e] at h; exact .inl (gen k e h)
  unfold neT at h
  split at h
  · rw [show x = _ from ra, show y = _ from rb]
    exact .inr ⟨rfl, Ran.done s h (by show V.bl _ = V.bl _; congr 1; rw [dec_int, Bool.beq_eq_decide_eq])⟩
  · rw [show x = _ from ra, show y = _ from rb]
    exact .inr ⟨rfl, Ran.done s h (by show V.bl _ = V.bl _; congr 1; rw [dec_bl, Bool.beq_eq_decide_eq])⟩
  · rw [show x = _ from ra, show y = _ from rb]
    exact .inr ⟨rfl, Ran.done s h (by show V.bl _ = V.bl _; congr 1; rw [dec_str])⟩
  · exact fb h
end

/-! ### arithmetic -/
def subT (a b : T) (st : List O) : Rs T := match a, b with
  | .int i, .int j => .ok (.int (i - j)) st
  | _, _ => .no
def fdivT (a b : T) (st : List O) : Rs T := match a, b with
  | .int i, .int j => match decide (0 < j) && decide (j.natAbs.log2 < 9000) with
    | true => .ok (.int (i / j)) st
    | false => .no
  | _, _ => .no
def modT (a b : T) (st : List O) : Rs T := match a, b with
  | .int i, .int j => match decide (0 < j) with
    | true => .ok (.int (i % j)) st
    | false => .no
  | _, _ => .no
def powT (a b : T) (st : List O) : Rs T := match a, b with
  | .int i, .int j => match decide (0 ≤ j) && decide (j ≤ 1000000) && decide (i.natAbs < 2 ^ 64) with
    | true => .ok (.int (i ^ j.toNat)) st
    | false => .no
  | _, _ => .no
def addT (a b : T) (st : List O) : Rs T := match a, b with
  | .int i, .int j => .ok (.int (i + j)) st
  | .tup xs, .tup ys => match sizeOk (xs.length + ys.length) with
    | true => .ok (.tup (xs ++ ys)) st
    | false => .no
  | .lst xs, .lst ys => match sizeOk (xs.length + ys.length) with
    | true => .ok (.lst (xs ++ ys)) st
    | false => .no
  | .str x, .str y => match sizeOk (x.length + y.length) with
    | true => .ok (.str (x ++ y)) st
    | false => .no
  | _, _ => .no
def mulT (a b : T) (st : List O) : Rs T := match a, b with
  | .int i, .int j => match decide (i.natAbs.log2 + j.natAbs.log2 < 1000000) with
    | true => .ok (.int (i * j)) st
    | false => .no
  | .tup xs, .int k => match !xs.isEmpty && decide (2 ≤ k) && decide (k ≤ 1000) && decide (xs.length ≤ 1000) with
    | true => .ok (.tup (List.replicate k.toNat xs).flatten) st
    | false => .no
  | .lst xs, .int k => match decide (0 ≤ k) && decide (k ≤ 1000) && decide (xs.length ≤ 1000) with
    | true => .ok (.lst (List.replicate k.toNat xs).flatten) st
    | false => .no
  | _, _ => .no
section
variable {Γ : Gam} {X : Cx}
theorem ok_int2 {g : Int → Int → V} {f : T → T → List O → Rs T} {gt : Int → Int → T} (hg : ∀ F ρ H i j, RV Γ F ρ H (gt i j) (g i j)) (hf : ∀ a b st, (∃ i j, a = .int i ∧ b = .int j ∧ f a b st = .ok (gt i j) st) ∨ f a b st = .no) : OpOk Γ (rI0 g) f := fun F ρ st H x y a b Q E s ra rb h => by
  rcases hf a b st with ⟨i, j, rfl, rfl, e⟩ | e
  · rw [e] at h
    exact ⟨i, j, ra, rb, Ran.done s h (hg F ρ H i j)⟩
  · rw [e] at h; exact h.elim
theorem ok_intC {C : Int → Int → Prop} {g : Int → Int → V} {f : T → T → List O → Rs T} {gt : Int → Int → T} (hg : ∀ F ρ H i j, RV Γ F ρ H (gt i j) (g i j)) (hf : ∀ a b st, (∃ i j, a = .int i ∧ b = .int j ∧ C i j ∧ f a b st = .ok (gt i j) st) ∨ f a b st = .no) : OpOk Γ (rI C g) f := fun F ρ st H x y a b Q E s ra rb h => by
  rcases hf a b st with ⟨i, j, rfl, rfl, c, e⟩ | e
  · rw [e] at h
    exact ⟨i, j, ra, rb, c, Ran.done s h (hg F ρ H i j)⟩
  · rw [e] at h; exact h.elim
theorem ok_sub : OpOk Γ (rI0 fun i j => .int (i - j)) subT := ok_int2 (gt := fun i j => .int (i - j)) (fun _ _ _ _ _ => rfl) fun a b st => by
  unfold subT
  split
  · exact .inl ⟨_, _, rfl, rfl, rfl⟩
  · exact .inr rfl
theorem ok_fdiv : OpOk Γ (rI CDivW fun i j => .int (i / j)) fdivT := ok_intC (gt := fun i j => .int (i / j)) (fun _ _ _ _ _ => rfl) fun a b st => by
  unfold fdivT
  split
  · rename_i i j
    split
    · rename_i h
      obtain ⟨h1, h2⟩ := Bool.and_eq_true_iff.mp h
      exact .inl ⟨_, _, rfl, rfl, ⟨of_decide_eq_true h1, of_decide_eq_true h2⟩, rfl⟩
    · exact .inr rfl
  · exact .inr rfl
theorem ok_mod : OpOk Γ (rI (fun _ j => 0 < j) fun i j => .int (i % j)) modT := ok_intC (gt := fun i j => .int (i % j)) (fun _ _ _ _ _ => rfl) fun a b st => by
  unfold modT
  split
  · split
    · rename_i h
      exact .inl ⟨_, _, rfl, rfl, of_decide_eq_true h, rfl⟩
    · exact .inr rfl
  · exact .inr rfl
theorem ok_pow : OpOk Γ (rI CPow fun i j => .int (i ^ j.toNat)) powT := ok_intC (gt := fun i j => .int (i ^ j.toNat)) (fun _ _ _ _ _ => rfl) fun a b st => by
  unfold powT
  split
  · split
    · rename_i h
      obtain ⟨h12, h3⟩ := Bool.and_eq_true_iff.mp h
      obtain ⟨h1, h2⟩ := Bool.and_eq_true_iff.mp h12
      exact .inl ⟨_, _, rfl, rfl, ⟨of_decide_eq_true h1, of_decide_eq_true h2, of_decide_eq_true h3⟩, rfl⟩
    · exact .inr rfl
  · exact .inr rfl
def rAddStr : R2 := fun x y H Q => ∃ i j, x = .str i ∧ y = .str j ∧ i.length + j.length ≤ sizeLine ∧ Q (.str (i ++ j)) H
def rAddA (K : PySem.W.Frag) : R2 := fun x y H Q => rI0 (fun i j => .int (i + j)) x y H Q ∨ rCatF K x y H Q ∨ rCat x y H Q ∨ rAddStr x y H Q
theorem op_addA : OpR X (binaryOp .Add) (rAddA X.K) := op_add.or (op_catF.or (op_cat.or op_add_str))
theorem ok_add : OpOk Γ (rAddA Γ.K) addT := fun F ρ st H x y a b Q E s ra rb h => by
  unfold addT at h
  split at h
  · rw [show x = _ from ra, show y = _ from rb]
    exact .inl ⟨_, _, rfl, rfl, Ran.done s h rfl⟩
  · rename_i xs ys
    cases e : sizeOk (xs.length + ys.length) with
    | false => rw [e] at h; exact h.elim
    | true =>
      rw [e] at h
      obtain ⟨p, vs, rfl, h1, h2⟩ := ra
      obtain ⟨q, ws, rfl, h3, h4⟩ := rb
      refine .inr (.inl ⟨p, q, vs, ws, rfl, rfl, tupK_sq h1, tupK_sq h3, by rw [← h2.length, ← h4.length]; exact sizeOk_le e, fun z => ?_, fun z1 z => ?_, fun z1 z2 r ob hr ho => ?_⟩)
      · subst z
        have : xs = [] := List.eq_nil_of_length_eq_zero (by rw [h2.length]; rfl)
        subst this
        exact Ran.done s h ⟨q, ws, rfl, h3, h4⟩
      · subst z
        have : ys = [] := List.eq_nil_of_length_eq_zero (by rw [h4.length]; rfl)
        subst this
        exact Ran.done s h ⟨p, vs, rfl, h1, by rw [List.append_nil]; exact h2⟩
      · exact Ran.ends h (.laid s.rs hr) (RV.tupNew s hr ho (h2.append h4))
  · rename_i xs ys
    cases e : sizeOk (xs.length + ys.length) with
    | false => rw [e] at h; exact h.elim
    | true =>
      rw [e] at h
      obtain ⟨p, vs, rfl, _, _, h1, h2⟩ := ra
      obtain ⟨q, ws, rfl, _, _, h3, h4⟩ := rb
      exact .inr (.inr (.inl ⟨p, q, vs, ws, rfl, rfl, h1, h3, by rw [← h2.length, ← h4.length]; exact sizeOk_le e, fun r hr => Ran.ends h (.laid s.rs hr) (RV.lstNew s hr (h2.append h4))⟩))
  · rename_i i j
    cases e : sizeOk (i.length + j.length) with
    | false => rw [e] at h; exact h.elim
    | true =>
      rw [e] at h
      rw [show x = _ from ra, show y = _ from rb]
      exact .inr (.inr (.inr ⟨_, _, rfl, rfl, sizeOk_le e, Ran.done s h rfl⟩))
  · exact h.elim
def rMulA (K : PySem.W.Frag) : R2 := fun x y H Q => rI CMulW (fun i j => .int (i * j)) x y H Q ∨ rRepF K x y H Q ∨ rRep x y H Q
theorem op_mulA : OpR X (binaryOp .Mult) (rMulA X.K) := op_mulW.or (op_repF.or op_rep)
theorem RVs.rep {F ρ : List Addr} {H : Hp} {xs : List T} {vs : List V} (h : RVs Γ F ρ H xs vs) : ∀ k : Nat, RVs Γ F ρ H (List.replicate k xs).flatten (List.replicate k vs).flatten
  | 0 => rfl
  | k + 1 => by
    rw [List.replicate_succ, List.replicate_succ, List.flatten_cons, List.flatten_cons]
    exact RVs.append h (RVs.rep h k)
theorem ok_mul : OpOk Γ (rMulA Γ.K) mulT := fun F ρ st H x y a b Q E s ra rb h => by
  unfold mulT at h
  split at h
  · rename_i i j
    split at h
    · rename_i e
      rw [show x = _ from ra, show y = _ from rb]
      exact .inl ⟨_, _, rfl, rfl, (of_decide_eq_true e : i.natAbs.log2 + j.natAbs.log2 < 1000000), Ran.done s h rfl⟩
    · exact h.elim
  · rename_i xs k
    split at h
    · rename_i e
      obtain ⟨e1, e4⟩ := Bool.and_eq_true_iff.mp e
      obtain ⟨e2, e3⟩ := Bool.and_eq_true_iff.mp e1
      obtain ⟨e5, e6⟩ := Bool.and_eq_true_iff.mp e2
      obtain ⟨p, vs, rfl, h1, h2⟩ := ra
      refine .inr (.inl ⟨p, k, vs, rfl, rb, tupK_sq h1, fun z => ?_, of_decide_eq_true e6, of_decide_eq_true e3, by rw [← h2.length]; exact of_decide_eq_true e4, fun r ob hr ho => ?_⟩)
      · subst z
        have : xs = [] := List.eq_nil_of_length_eq_zero (by rw [h2.length]; rfl)
        subst this; cases e5
      · exact Ran.ends h (.laid s.rs hr) (RV.tupNew s hr ho (h2.rep _))
    · exact h.elim
  · rename_i xs k
    split at h
    · rename_i e
      obtain ⟨e1, e4⟩ := Bool.and_eq_true_iff.mp e
      obtain ⟨e2, e3⟩ := Bool.and_eq_true_iff.mp e1
      obtain ⟨p, vs, rfl, _, _, h1, h2⟩ := ra
      have f2 := of_decide_eq_true e2
      have f3 := of_decide_eq_true e3
      have f4 : vs.length ≤ 1000 := by rw [← h2.length]; exact of_decide_eq_true e4
      refine .inr (.inr ⟨p, k, vs, rfl, rb, h1, by omega, by omega, ?_, fun r hr => Ran.ends h (.laid s.rs hr) (RV.lstNew s hr (h2.rep _))⟩)
      have f5 : k.toNat ≤ 1000 := by omega
      calc vs.length * k.toNat ≤ 1000 * 1000 := Nat.mul_le_mul f4 f5
        _ ≤ sizeLine := by rw [sizeLine_eq]; decide
    · exact h.elim
  · exact h.elim

/-! ### order -/
def cmpI (g : Int → Int → Bool) (a b : T) (st : List O) : Rs T := match a, b with
  | .int i, .int j => .ok (.bl (g i j)) st
  | _, _ => .no
theorem ok_cmpI {g : Int → Int → Bool} : OpOk Γ (rI0 fun i j => .bl (g i j)) (cmpI g) := ok_int2 (gt := fun i j => .bl (g i j)) (fun _ _ _ _ _ => rfl) fun a b st => by
  unfold cmpI
  split
  · exact .inl ⟨_, _, rfl, rfl, rfl⟩
  · exact .inr rfl
def ltT (a b : T) (st : List O) : Rs T := match a, b with
  | .int i, .int j => .ok (.bl (decide (i < j))) st
  | .str x, .str y => .ok (.bl (decide (x.cps.toList < y.cps.toList))) st
  | _, _ => .no
def rLtA : R2 := fun x y H Q => rI0 (fun i j => .bl (decide (i < j))) x y H Q ∨ ∃ i j, x = .str i ∧ y = .str j ∧ Q (.bl (decide (i.cps.toList < j.cps.toList))) H
theorem op_ltA : OpR X (compareOp .Lt) rLtA := op_lt.or op_lt_str
theorem ok_lt : OpOk Γ rLtA ltT := fun F ρ st H x y a b Q E s ra rb h => by
  unfold ltT at h
  split at h
  · exact .inl ⟨_, _, ra, rb, Ran.done s h rfl⟩
  · exact .inr ⟨_, _, ra, rb, Ran.done s h rfl⟩
  · exact h.elim
/-- is None, is not None -/
def isN (k : Bool) (a b : T) (st : List O) : Rs T := match b with
  | .non => match a with
    | .non => .ok (.bl k) st
    | _ => .ok (.bl (!k)) st
  | _ => .no
def isNonT : T → Bool
  | .non => true
  | _ => false
theorem RV.none_iff {F ρ : List Addr} {H : Hp} {a : T} {x : V} (r : RV Γ F ρ H a x) : isNonT a = decide (x = .non) := by
  cases a with
  | non => cases (show x = _ from r); rfl
  | bl _ => cases (show x = _ from r); rfl
  | int _ => cases (show x = _ from r); rfl
  | str _ => cases (show x = _ from r); rfl
  | fn _ => cases (show x = _ from r); rfl
  | ty _ => cases (show x = _ from r); rfl
  | cls _ => cases (show x = _ from r); rfl
  | tup xs => obtain ⟨p, _, rfl, _⟩ := r; rfl
  | lst xs => obtain ⟨p, _, rfl, _⟩ := r; rfl
  | scr xs => obtain ⟨p, rfl, _⟩ := r; rfl
  | dct ks xs => obtain ⟨p, _, rfl, _⟩ := r; rfl
  | ins c ks xs => obtain ⟨p, _, _, rfl, _⟩ := r; rfl
  | exc c ks xs => obtain ⟨p, _, rfl, _⟩ := r; rfl
  | ref xs => obtain ⟨p, rfl, _⟩ := r; rfl
  | lam xs => obtain ⟨p, _, rfl, _⟩ := r; rfl
theorem ok_isN : OpOk Γ (fun x y H Q => y = .non ∧ Q (.bl (decide (x = .non))) H) (isN true) := fun F ρ st H x y a b Q E s ra rb h => by
  unfold isN at h
  split at h
  · refine ⟨rb, ?_⟩
    rw [← ra.none_iff]
    cases a <;> exact Ran.done s h rfl
  · exact h.elim
theorem ok_notN : OpOk Γ (fun x y H Q => y = .non ∧ Q (.bl (!decide (x = .non))) H) (isN false) := fun F ρ st H x y a b Q E s ra rb h => by
  unfold isN at h
  split at h
  · refine ⟨rb, ?_⟩
    rw [← ra.none_iff]
    cases a <;> exact Ran.done s h rfl
  · exact h.elim

/-! ### in, not in: over lists and tuples of plain things, a text in a text -/
def flatT : T → Option V
  | .non => some .non
  | .bl b => some (.bl b)
  | .int i => some (.int i)
  | .str x => some (.str x)
  | _ => none
theorem flatT_ok {F ρ : List Addr} {H : Hp} {a : T} {x v : V} (e : flatT a = some v) (r : RV Γ F ρ H a x) : x = v ∧ flatV x = true := by
  cases a <;> simp [flatT] at e <;> subst e <;> exact ⟨r, by rw [show x = _ from r]; rfl⟩
def flatTs : List T → Option (List V)
  | [] => some []
  | t :: r => match flatT t with
    | some v => match flatTs r with
      | some vs => some (v :: vs)
      | none => none
    | none => none
theorem flatTs_ok {F ρ : List Addr} {H : Hp} : ∀ {xs : List T} {vs ws : List V}, flatTs xs = some ws → RVs Γ F ρ H xs vs → vs = ws ∧ vs.all flatV = true
  | [], vs, ws, e, r => by
    have e2 : vs = [] := r
    subst e2
    simp [flatTs] at e; subst e
    exact ⟨rfl, rfl⟩
  | t :: xs, _, ws, e, r => by
    obtain ⟨v, vr, rfl, r1, r2⟩ := r
    simp only [flatTs] at e
    cases q : flatT t with
    | none => rw [q] at e; cases e
    | some u =>
      rw [q] at e
      cases q2 : flatTs xs with
      | none => simp only [q2] at e; cases e
      | some us =>
        simp only [q2] at e; cases e
        obtain ⟨e1, e2⟩ := flatT_ok q r1
        obtain ⟨e3, e4⟩ := flatTs_ok q2 r2
        subst e1; subst e3
        exact ⟨rfl, by rw [List.all_cons, e2, e4]; rfl⟩
/-- the items of a list or tuple -/
def seqT (st : List O) : T → Option (List T)
  | .tup xs => some xs
  | .lst xs => some xs
  | .ref n => match st[n]? with
    | some (.lst xs) => some xs
    | _ => none
  | _ => none
theorem seqT_ok {F ρ : List Addr} {H : Hp} {st : List O} {a : T} {x : V} {xs : List T} (s : RS Γ F ρ H st) (e : seqT st a = some xs) (r : RV Γ F ρ H a x) : ∃ p vs, x = .ref p ∧ (SqL Γ.K H p vs ∨ SqT Γ.K H p vs) ∧ RVs Γ F ρ H xs vs := by
  cases a with
  | tup ys => cases e; obtain ⟨p, vs, rfl, h1, h2⟩ := r; exact ⟨p, vs, rfl, .inr (tupK_sq h1), h2⟩
  | lst ys => cases e; obtain ⟨p, vs, rfl, _, _, h1, h2⟩ := r; exact ⟨p, vs, rfl, .inl (.of h1), h2⟩
  | ref n =>
    obtain ⟨p, rfl, h1⟩ := r
    simp only [seqT] at e
    cases q : st[n]? with
    | none => rw [q] at e; cases e
    | some o =>
      cases o with
      | lst ys => rw [q] at e; cases e; obtain ⟨vs, h3, h2⟩ := RO.list (s.at_ n _ p q h1); exact ⟨p, vs, rfl, .inl (.of h3), h2⟩
      | _ => rw [q] at e; cases e
  | _ => simp [seqT] at e
def inT (neg : Bool) (a b : T) (st : List O) : Rs T := match a, b with
  | .str x, .str y => .ok (.bl (if neg then !(!(Builtin.Str.occurrences y x 0 y.length 1).isEmpty) else !(Builtin.Str.occurrences y x 0 y.length 1).isEmpty)) st
  | a, b => match flatT a, seqT st b with
    | some v, some xs => match flatTs xs with
      | some vs => .ok (.bl (if neg then !inV v vs else inV v vs)) st
      | none => .no
    | _, _ => .no
def rInA (K : PySem.W.Frag) (neg : Bool) : R2 := fun x y H Q => rIn K neg x y H Q ∨ ∃ i j, x = .str i ∧ y = .str j ∧ Q (.bl (if neg then !(!(Builtin.Str.occurrences j i 0 j.length 1).isEmpty) else !(Builtin.Str.occurrences j i 0 j.length 1).isEmpty)) H
theorem op_inA : OpR X (compareOp .In) (rInA X.K false) := op_in_seq.or op_in_str
theorem op_notInA : OpR X (compareOp .NotIn) (rInA X.K true) := op_notIn_seq.or op_notIn_str
theorem ok_in (neg : Bool) : OpOk Γ (rInA Γ.K neg) (inT neg) := fun F ρ st H x y a b Q E s ra rb h => by
  unfold inT at h
  split at h
  · exact .inr ⟨_, _, ra, rb, Ran.done s h rfl⟩
  · split at h
    · rename_i v xs e1 e2
      split at h
      · rename_i vs e3
        obtain ⟨p, ws, rfl, h1, h2⟩ := seqT_ok s.rs e2 rb
        obtain ⟨rfl, f1⟩ := flatT_ok e1 ra
        obtain ⟨rfl, f2⟩ := flatTs_ok e3 h2
        exact .inl ⟨p, _, rfl, h1, f1, f2, Ran.done s h rfl⟩
      · exact h.elim
    · exact h.elim
end
end WR
namespace WR
open PySem PySem.Spec PyProof.Rows L2

/-! ### subscripts -/
def ixT (a b : T) (st : List O) : Rs T := match b with
  | .int i => match a with
    | .str z => match sizeOk z.length with
      | true => match atI z.cps.toList i with
        | some c => .ok (.str ⟨#[c]⟩) st
        | none => .no
      | false => .no
    | a => match seqT st a with
      | some xs => match atI xs i with
        | some t => .ok t st
        | none => .no
      | none => .no
  | _ => .no
section
variable {Γ : Gam} {X : Cx} {W : WX}
theorem RVs.atI {F ρ : List Addr} {H : Hp} {xs : List T} {vs : List V} {i : Int} {t : T} (r : RVs Γ F ρ H xs vs) (e : L2.atI xs i = some t) : ∃ v, L2.atI vs i = some v ∧ RV Γ F ρ H t v := by
  unfold L2.atI at e ⊢
  rw [← r.length]
  cases q : ixN xs.length i with
  | none => rw [q] at e; cases e
  | some j =>
    rw [q] at e
    exact r.get e
theorem ok_ix : OpOk Γ (rIx Γ.K) ixT := fun F ρ st H x y a b Q E s ra rb h => by
  unfold ixT at h
  split at h
  · rename_i i
    split at h
    · rename_i z
      split at h
      · rename_i e
        split at h
        · rename_i c e2
          exact .inr (.inr ⟨z, i, c, ra, rb, sizeOk_le e, e2, Ran.done s h rfl⟩)
        · exact h.elim
      · exact h.elim
    · split at h
      · rename_i xs e
        split at h
        · rename_i t e2
          obtain ⟨p, vs, rfl, h1, h2⟩ := seqT_ok s.rs e ra
          obtain ⟨v, e3, r⟩ := h2.atI e2
          rcases h1 with h1 | h1
          · exact .inl ⟨p, vs, i, v, rfl, rb, h1, e3, Ran.done s h r⟩
          · exact .inr (.inl ⟨p, vs, i, v, rfl, rb, h1, e3, Ran.done s h r⟩)
        · exact h.elim
      · exact h.elim
  · exact h.elim
theorem sE_ix {e d : Expr} {a b : ME} {pos : Pos} (ha : SE Γ X W e a) (hb : SE Γ X W d b) (hK : X.K = Γ.K) (hs : PlainIx d := by exact fun _ _ => rfl) : SE Γ X W (.Subscript e d pos) (mOp ixT a b) :=
  (pe_ix ix_seq ha hb hs).imp fun _ _ _ h => by rw [hK]; exact tOp_imp ok_ix h

/-! ### dicts -/
def keyT : T → Option Key
  | .int i => some (.inl i)
  | .str x => some (.inr x)
  | _ => none
theorem keyT_ok {F ρ : List Addr} {H : Hp} {a : T} {x : V} {k : Key} (e : keyT a = some k) (r : RV Γ F ρ H a x) : x = kV k := by
  cases a <;> simp [keyT] at e <;> subst e <;> exact r
def dctT (st : List O) : T → Option (List Key × List T)
  | .dct ks vs => some (ks, vs)
  | .ref n => match st[n]? with
    | some (.dct ks vs) => some (ks, vs)
    | _ => none
  | _ => none
theorem RO.dict {F ρ : List Addr} {H : Hp} {ks : List Key} {xs : List T} {a : Addr} (h : RO Γ F ρ H (.dct ks xs) a) : ∃ kvs : List (Key × V), H a = some (.dK kvs) ∧ kvs.map (·.1) = ks ∧ RVs Γ F ρ H xs (kvs.map (·.2)) := h
theorem dctT_ok {F ρ : List Addr} {H : Hp} {st : List O} {a : T} {x : V} {ks : List Key} {xs : List T} (s : RS Γ F ρ H st) (e : dctT st a = some (ks, xs)) (r : RV Γ F ρ H a x) : ∃ (p : Addr) (kvs : List (Key × V)), x = .ref p ∧ Rd H p (.dK kvs) ∧ kvs.map (·.1) = ks ∧ RVs Γ F ρ H xs (kvs.map (·.2)) := by
  cases a with
  | dct ks' ys => cases e; obtain ⟨p, kvs, rfl, _, _, h1, h2, h3⟩ := r; exact ⟨p, kvs, rfl, h1, h2, h3⟩
  | ref n =>
    obtain ⟨p, rfl, h1⟩ := r
    simp only [dctT] at e
    cases q : st[n]? with
    | none => rw [q] at e; cases e
    | some o =>
      cases o with
      | dct ks' ys => rw [q] at e; cases e; obtain ⟨kvs, h3, h4, h2⟩ := RO.dict (s.at_ n _ p q h1); exact ⟨p, kvs, rfl, .inl h3, h4, h2⟩
      | _ => rw [q] at e; cases e
  | _ => simp [dctT] at e
/-- the place of a key -/
def findK : List Key → Key → Option Nat
  | [], _ => none
  | k :: r, k' => match decide (k = k') with
    | true => some 0
    | false => match findK r k' with
      | some i => some (i + 1)
      | none => none
def lookT (ks : List Key) (vs : List T) (k : Key) : Option T := match findK ks k with
  | some i => vs[i]?
  | none => none
theorem findK_val : ∀ {kvs : List (Key × V)} {k : Key}, valV kvs k = match findK (kvs.map (·.1)) k with | some i => (kvs.map (·.2))[i]? | none => none
  | [], _ => rfl
  | p :: r, k => by
    by_cases e : p.1 = k
    · rw [valV_pos e]
      simp only [List.map_cons, findK]
      rw [decide_eq_true e]
      rfl
    · rw [valV_neg e, findK_val]
      simp only [List.map_cons, findK]
      rw [decide_eq_false e]
      cases q : findK (r.map (·.1)) k with
      | none => rfl
      | some i => simp
theorem lookT_ok {F ρ : List Addr} {H : Hp} {ks : List Key} {xs : List T} {kvs : List (Key × V)} {k : Key} (h1 : kvs.map (·.1) = ks) (h2 : RVs Γ F ρ H xs (kvs.map (·.2))) :
    (∀ t, lookT ks xs k = some t → ∃ v, valV kvs k = some v ∧ RV Γ F ρ H t v) ∧ (findK ks k = none → valV kvs k = none) ∧ (findK ks k ≠ none → (valV kvs k).isSome = true) := by
  subst h1
  refine ⟨fun t e => ?_, fun e => ?_, fun e => ?_⟩
  · unfold lookT at e
    cases q : findK (kvs.map (·.1)) k with
    | none => rw [q] at e; cases e
    | some i =>
      rw [q] at e
      obtain ⟨v, e2, r⟩ := h2.get e
      exact ⟨v, by rw [findK_val, q]; exact e2, r⟩
  · rw [findK_val, e]
  · cases q : findK (kvs.map (·.1)) k with
    | none => exact (e q).elim
    | some i =>
      rw [findK_val, q]
      have lt : ∀ (ks : List Key) (i : Nat), findK ks k = some i → i < ks.length := by
        intro ks
        induction ks with
        | nil => intro i e; cases e
        | cons a r ih =>
          intro i e
          simp only [findK] at e
          cases d : decide (a = k) with
          | true => rw [d] at e; cases e; simp
          | false =>
            rw [d] at e
            cases q2 : findK r k with
            | none => simp only [q2] at e; cases e
            | some j => simp only [q2] at e; cases e; have := ih j q2; simp; omega
      have := lt _ i q
      rw [List.length_map] at this
      simp [this]
def dgetT (a b : T) (st : List O) : Rs T := match dctT st a, keyT b with
  | some (ks, vs), some k => match lookT ks vs k with
    | some t => .ok t st
    | none => .no
  | _, _ => .no
theorem sE_dget {e d : Expr} {a b : ME} {pos : Pos} (hu : X.A.units + 1 < cLine) (ha : SE Γ X W e a) (hb : SE Γ X W d b) (hs : NoSl d := by exact fun _ _ => rfl) : SE Γ X W (.Subscript e d pos) (mOp dgetT a b) :=
  (pe_dget hu ha hb hs).imp fun σ H Q ⟨σp, F, ρ, st, s, re, h⟩ => ⟨σp, F, ρ, st, s, re, Ran.bind s h fun t st1 v H1 ρ1 _ s1 p1 r1 h1 => ⟨σp, F, ρ1, st1, s1, re.post s p1, Ran.bind s1 h1 fun t2 st2 v2 H2 ρ2 _ s2 p2 r2 h2 => by
    unfold dgetT at h2
    split at h2
    · rename_i ks vs k e1 e2
      split at h2
      · rename_i t3 e3
        obtain ⟨p, kvs, rfl, g1, g2, g3⟩ := dctT_ok s2.rs e1 (p2.rv s1.rs r1)
        obtain ⟨w, g4, g5⟩ := (lookT_ok g2 g3).1 t3 e3
        rw [keyT_ok e2 r2]
        exact ⟨p, w, rfl, .inl ⟨kvs, k, g1, rfl, g4.symm⟩, Ran.done s2 h2 g5⟩
      · exact h2.elim
    · exact h2.elim⟩⟩
/-- key in d: as a test -/
def dinT (neg : Bool) (a b : T) (st : List O) : Rs T := match keyT a, dctT st b with
  | some k, some (ks, _) => .ok (.bl (match findK ks k with | some _ => !neg | none => neg)) st
  | _, _ => .no
theorem dinT_ok {neg : Bool} {F ρ : List Addr} {H : Hp} {st : List O} {a b : T} {x y : V} {Q : VK} {E : XK} (s : SR Γ F ρ H st) (ra : RV Γ F ρ H a x) (rb : RV Γ F ρ H b y) (h : Ran Γ F (RT Γ F) (dinT neg a b st) ρ st H E Q) :
    ∃ p o, y = .ref p ∧ DGet H p x o ∧ Q (.bl (if neg then !o.isSome else o.isSome)) H := by
  unfold dinT at h
  split at h
  · rename_i k ks vs e1 e2
    obtain ⟨p, kvs, rfl, g1, g2, g3⟩ := dctT_ok s.rs e2 rb
    rw [keyT_ok e1 ra]
    refine ⟨p, _, rfl, .inl ⟨kvs, k, g1, rfl, rfl⟩, ?_⟩
    cases q : findK ks k with
    | none =>
      rw [q] at h
      rw [(lookT_ok (k := k) g2 g3).2.1 q]
      have := Ran.done s h rfl
      cases neg <;> exact this
    | some i =>
      rw [q] at h
      have z := (lookT_ok (k := k) g2 g3).2.2 (by rw [q]; simp)
      rw [z]
      have := Ran.done s h rfl
      cases neg <;> exact this
  · exact h.elim
theorem sE_din {e d : Expr} {a b : ME} {pos : Pos} (hu : X.A.units + 1 < cLine) (ha : SE Γ X W e a) (hb : SE Γ X W d b) (h1 : behindInMarks .In d = false := by rfl) : SE Γ X W (.Compare e [.In] [d] pos) (mOp (dinT false) a b) :=
  (pe_cmp (pc_din hu ha hb) h1).imp fun σ H Q ⟨σp, F, ρ, st, s, re, h⟩ => ⟨σp, F, ρ, st, s, re, Ran.bind s h fun t st1 v H1 ρ1 _ s1 p1 r1 h1 => ⟨σp, F, ρ1, st1, s1, re.post s p1, Ran.bind s1 h1 fun t2 st2 v2 H2 ρ2 _ s2 p2 r2 h2 => dinT_ok s2 (p2.rv s1.rs r1) r2 h2⟩⟩
theorem sE_dnotin {e d : Expr} {a b : ME} {pos : Pos} (hu : X.A.units + 1 < cLine) (ha : SE Γ X W e a) (hb : SE Γ X W d b) (h1 : behindInMarks .NotIn d = false := by rfl) : SE Γ X W (.Compare e [.NotIn] [d] pos) (mOp (dinT true) a b) :=
  (pe_cmp (pc_dnotin hu ha hb) h1).imp fun σ H Q ⟨σp, F, ρ, st, s, re, h⟩ => ⟨σp, F, ρ, st, s, re, Ran.bind s h fun t st1 v H1 ρ1 _ s1 p1 r1 h1 => ⟨σp, F, ρ1, st1, s1, re.post s p1, Ran.bind s1 h1 fun t2 st2 v2 H2 ρ2 _ s2 p2 r2 h2 => dinT_ok s2 (p2.rv s1.rs r1) r2 h2⟩⟩
end

/-! ### slices -/
def mPart (a : Option ME) : M (Option Int) := fun σ st => match a with
  | none => .ok none st
  | some m => (m σ st).bind fun x st1 => match x with
    | .int i => .ok (some i) st1
    | _ => .no
def cutT {α : Type} (xs : List α) (lo hi : Option Int) : List α := (xs.drop (HT.sIx xs.length 0 lo)).take (HT.sIx xs.length xs.length hi - HT.sIx xs.length 0 lo)
/-- the items of a list -/
def lstT (st : List O) : T → Option (List T)
  | .lst xs => some xs
  | .ref n => match st[n]? with
    | some (.lst xs) => some xs
    | _ => none
  | _ => none
theorem lstT_ok {Γ : Gam} {F ρ : List Addr} {H : Hp} {st : List O} {a : T} {x : V} {xs : List T} (s : RS Γ F ρ H st) (e : lstT st a = some xs) (r : RV Γ F ρ H a x) : ∃ p vs, x = .ref p ∧ H p = some (.lst vs) ∧ RVs Γ F ρ H xs vs := by
  cases a with
  | lst ys => cases e; obtain ⟨p, vs, rfl, _, _, h1, h2⟩ := r; exact ⟨p, vs, rfl, h1, h2⟩
  | ref n =>
    obtain ⟨p, rfl, h1⟩ := r
    simp only [lstT] at e
    cases q : st[n]? with
    | none => rw [q] at e; cases e
    | some o =>
      cases o with
      | lst ys => rw [q] at e; cases e; obtain ⟨vs, h3, h2⟩ := RO.list (s.at_ n _ p q h1); exact ⟨p, vs, rfl, h3, h2⟩
      | _ => rw [q] at e; cases e
  | _ => simp [lstT] at e
def slT (a : T) (lo hi : Option Int) (st : List O) : Rs T := match a with
  | .tup xs => .ok (.tup (cutT xs lo hi)) st
  | a => match lstT st a with
    | some xs => .ok (.lst (cutT xs lo hi)) st
    | none => .no
def mSl (a : ME) (lo hi : Option ME) : ME := fun σ st => (a σ st).bind fun x st1 => (mPart lo σ st1).bind fun l st2 => (mPart hi σ st2).bind fun u st3 => slT x l u st3
def tPo (Γ : Gam) (m : M (Option Int)) (W : WX) : TO := fun σ H Q => ∃ (σp : Ev) (F ρ : List Addr) (st : List O), SR Γ F ρ H st ∧ RE Γ F ρ H σp σ ∧ Ran Γ F (fun _ _ _ (a b : Option Int) => a = b) (m σp st) ρ st H (fun cls d H' => W cls d σ H') Q
def SPo (Γ : Gam) (X : Cx) (W : WX) (e : Option Expr) (m : Option ME) : Prop := PO X e (tPo Γ (mPart m) W)
section
variable {Γ : Gam} {X : Cx} {W : WX}
theorem PO.imp {e : Option Expr} {t t' : TO} (h : PO X e t) (i : ∀ σ H Q, t' σ H Q → t σ H Q) : PO X e t' := ⟨fun pins s σ H Q I q => h.run pins s σ H Q I (i σ H Q q)⟩
theorem sP_none : SPo Γ X W none none := PO.imp po_none fun σ H Q ⟨σp, F, ρ, st, s, re, h⟩ => Ran.done s h rfl
theorem sP_some {e : Expr} {a : ME} (h : SE Γ X W e a) : SPo Γ X W (some e) (some a) := PO.imp (po_some h) fun σ H Q ⟨σp, F, ρ, st, s, re, h⟩ => ⟨σp, F, ρ, st, s, re, Ran.bind s h fun t st1 v H1 ρ1 _ s1 p1 r1 h1 => by
  cases t with
  | int i => exact ⟨i, r1, Ran.done s1 h1 rfl⟩
  | _ => exact h1.elim⟩
def rSlX (K : PySem.W.Frag) : V → Option Int → Option Int → Hp → VK → Prop := fun x lo hi H Q => rSlF K x lo hi H Q ∨ rSlL K x lo hi H Q
theorem sl_X : SlR X (rSlX X.K) := sl_tupF.or sl_list
theorem RVs.cut {F ρ : List Addr} {H : Hp} {xs : List T} {vs : List V} (r : RVs Γ F ρ H xs vs) (lo hi : Option Int) : RVs Γ F ρ H (cutT xs lo hi) (cutV vs lo hi) := by
  unfold cutT cutV
  rw [← r.length]
  exact RVs.take _ (RVs.drop _ r)
theorem cut_whole {α : Type} {xs : List α} {lo hi : Option Int} (h : HT.sIx xs.length 0 lo = 0 ∧ HT.sIx xs.length xs.length hi = xs.length) : cutT xs lo hi = xs := by
  unfold cutT
  rw [h.1, h.2]
  simp
theorem sE_sl {e : Expr} {lo hi : Option Expr} {a : ME} {l u : Option ME} {pos p2 : Pos} (hK : X.K = Γ.K) (ha : SE Γ X W e a) (hl : SPo Γ X W lo l) (hu : SPo Γ X W hi u) : SE Γ X W (.Subscript e (.Slice lo hi none p2) pos) (mSl a l u) :=
  (pe_slice sl_X ha hl hu).imp fun σ H Q ⟨σp, F, ρ, st, s, re, h⟩ => ⟨σp, F, ρ, st, s, re, Ran.bind s h fun t st1 v H1 ρ1 _ s1 p1 r1 h1 => ⟨σp, F, ρ1, st1, s1, re.post s p1, Ran.bind s1 h1 fun i st2 i' H2 ρ2 _ s2 p2 r2 h2 => ⟨σp, F, ρ2, st2, s2, (re.post s p1).post s1 p2, Ran.bind s2 h2 fun j st3 j' H3 ρ3 _ s3 p3 r3 h3 => by
    cases r2; cases r3
    have rt := p3.rv s2.rs (p2.rv s1.rs r1)
    rw [hK]
    unfold slT at h3
    split at h3
    · rename_i xs
      obtain ⟨p, vs, rfl, g1, g2⟩ := rt
      refine .inl ⟨p, vs, rfl, tupK_sq g1, fun z => ?_, fun z r ob hr ho => Ran.ends h3 (.laid s3.rs hr) (RV.tupNew s3 hr ho (g2.cut i j))⟩
      rw [← g2.length] at z
      rw [cut_whole z] at h3
      exact Ran.done s3 h3 ⟨p, vs, rfl, g1, g2⟩
    · split at h3
      · rename_i xs e
        obtain ⟨p, vs, rfl, g1, g2⟩ := lstT_ok s3.rs e rt
        exact .inr ⟨p, vs, rfl, .of g1, fun r hr => Ran.ends h3 (.laid s3.rs hr) (RV.lstNew s3 hr (g2.cut i j))⟩
      · exact h3.elim⟩⟩⟩
end
end WR
namespace WR
open PySem PySem.Spec PyProof.Rows L2

/-! ### trees without one's own objects -/
mutual
/-- one's own objects are seen as they stand -/
def inl (st : List O) : Nat → T → Option T
  | 0, _ => none
  | n + 1, t => match t with
    | .tup xs => match inls st n xs with
      | some ys => some (.tup ys)
      | none => none
    | .lst xs => match inls st n xs with
      | some ys => some (.lst ys)
      | none => none
    | .dct ks xs => match inls st n xs with
      | some ys => some (.dct ks ys)
      | none => none
    | .ins c fs xs => match inls st n xs with
      | some ys => some (.ins c fs ys)
      | none => none
    | .exc c fs xs => match inls st n xs with
      | some ys => some (.exc c fs ys)
      | none => none
    | .ref i => match st[i]? with
      | some (.lst xs) => match inls st n xs with
        | some ys => some (.lst ys)
        | none => none
      | some (.dct ks xs) => match inls st n xs with
        | some ys => some (.dct ks ys)
        | none => none
      | some (.ins c fs xs) => match inls st n xs with
        | some ys => some (.ins c fs ys)
        | none => none
      | _ => none
    | t => some t
def inls (st : List O) : Nat → List T → Option (List T)
  | 0, _ => none
  | n + 1, ts => match ts with
    | [] => some []
    | t :: r => match inl st n t with
      | some y => match inls st n r with
        | some ys => some (y :: ys)
        | none => none
      | none => none
end
mutual
/-- none of one's own objects -/
def nrf : Nat → T → Bool
  | 0, _ => false
  | n + 1, t => match t with
    | .tup xs => nrfs n xs
    | .lst xs => nrfs n xs
    | .dct _ xs => nrfs n xs
    | .ins _ _ xs => nrfs n xs
    | .exc _ _ xs => nrfs n xs
    | .ref _ => false
    | _ => true
def nrfs : Nat → List T → Bool
  | 0, _ => false
  | n + 1, ts => match ts with
    | [] => true
    | t :: r => match nrf n t with
      | true => nrfs n r
      | false => false
end
mutual
/-- no objects but tuples -/
def pln : Nat → T → Bool
  | 0, _ => false
  | n + 1, t => match t with
    | .tup xs => plns n xs
    | .non => true
    | .bl _ => true
    | .int _ => true
    | .str _ => true
    | .fn _ => true
    | .ty _ => true
    | .cls _ => true
    | _ => false
def plns : Nat → List T → Bool
  | 0, _ => false
  | n + 1, ts => match ts with
    | [] => true
    | t :: r => match pln n t with
      | true => plns n r
      | false => false
end
section
variable {Γ : Gam} {F F' ρ ρ' : List Addr} {H : Hp} {st : List O}
theorem RO.inst {c : Nat} {fs : List Str} {xs : List T} {a : Addr} (h : RO Γ F ρ H (.ins c fs xs) a) : ∃ (dx : Addr) (fvs : List (Str × V)), H a = some (.ins (Γ.cad c) dx fvs) ∧ fvs.map (·.1) = fs ∧ RVs Γ F ρ H xs (fvs.map (·.2)) := h
mutual
theorem inl_ok (s : RS Γ F ρ H st) (dis : ∀ a ∈ F', a ∉ ρ) (sub : ∀ a ∈ F', a ∈ F) : ∀ (n : Nat) (t t' : T) (v : V), inl st n t = some t' → RV Γ F ρ H t v → RV Γ F' [] H t' v
  | 0, _, _, _, e, _ => by simp [inl] at e
  | n + 1, t, t', v, e, r => by
    cases t with
    | non => cases (show some _ = some t' from e); exact r
    | bl b => cases (show some _ = some t' from e); exact r
    | int i => cases (show some _ = some t' from e); exact r
    | str x => cases (show some _ = some t' from e); exact r
    | fn x => cases (show some _ = some t' from e); exact r
    | ty x => cases (show some _ = some t' from e); exact r
    | cls x => cases (show some _ = some t' from e); exact r
    | scr x =>
      cases (show some _ = some t' from e)
      obtain ⟨a, rfl, h⟩ := r
      refine ⟨a, rfl, ?_⟩
      rcases h with ⟨h1, h2, h3⟩ | h
      · exact .inl ⟨fun z => h1 (sub a z), by simp, h3⟩
      · exact .inr h
    | tup xs =>
      obtain ⟨a, vs, rfl, h1, h2⟩ := r
      simp only [inl] at e
      cases q : inls st n xs with
      | none => rw [q] at e; cases e
      | some ys => rw [q] at e; cases e; exact ⟨a, vs, rfl, h1, inls_ok s dis sub n xs ys vs q h2⟩
    | lst xs =>
      obtain ⟨a, vs, rfl, n1, n2, h1, h2⟩ := r
      simp only [inl] at e
      cases q : inls st n xs with
      | none => rw [q] at e; cases e
      | some ys => rw [q] at e; cases e; exact ⟨a, vs, rfl, fun z => n1 (sub a z), by simp, h1, inls_ok s dis sub n xs ys vs q h2⟩
    | dct ks xs =>
      obtain ⟨a, vs, rfl, n1, n2, h1, h3, h2⟩ := r
      simp only [inl] at e
      cases q : inls st n xs with
      | none => rw [q] at e; cases e
      | some ys => rw [q] at e; cases e; exact ⟨a, vs, rfl, fun z => n1 (sub a z), by simp, h1, h3, inls_ok s dis sub n xs ys _ q h2⟩
    | ins c ks xs =>
      obtain ⟨a, dx, vs, rfl, n1, n2, h1, h3, h2⟩ := r
      simp only [inl] at e
      cases q : inls st n xs with
      | none => rw [q] at e; cases e
      | some ys => rw [q] at e; cases e; exact ⟨a, dx, vs, rfl, fun z => n1 (sub a z), by simp, h1, h3, inls_ok s dis sub n xs ys _ q h2⟩
    | exc c ks xs =>
      obtain ⟨a, d, rfl, n1, n2, h1, h2⟩ := r
      simp only [inl] at e
      cases q : inls st n xs with
      | none => rw [q] at e; cases e
      | some ys =>
        rw [q] at e; cases e
        refine ⟨a, d, rfl, fun z => n1 (sub a z), by simp, h1, ?_⟩
        rcases h2 with ⟨z1, z2, z3⟩ | ⟨dd, fvs, z1, m1, m2, z2, z3, z4⟩
        · exact .inl ⟨z1, z2, inls_ok s dis sub n xs ys _ q z3⟩
        · exact .inr ⟨dd, fvs, z1, fun z => m1 (sub dd z), by simp, z2, z3, inls_ok s dis sub n xs ys _ q z4⟩
    | lam x =>
      cases (show some _ = some t' from e)
      obtain ⟨a, c, rfl, n1, n2, h1, n3, n4, h2⟩ := r
      exact ⟨a, c, rfl, fun z => n1 (sub a z), by simp, h1, fun z => n3 (sub c z), by simp, h2⟩
    | ref i =>
      obtain ⟨a, rfl, h1⟩ := r
      have na : a ∉ F' := fun z => dis a z (List.mem_of_getElem? h1)
      simp only [inl] at e
      cases q0 : st[i]? with
      | none => rw [q0] at e; cases e
      | some o =>
        have ro := s.at_ i o a q0 h1
        cases o with
        | lst xs =>
          rw [q0] at e
          obtain ⟨vs, h3, h2⟩ := RO.list ro
          cases q : inls st n xs with
          | none => simp only [q] at e; cases e
          | some ys => simp only [q] at e; cases e; exact ⟨a, vs, rfl, na, by simp, h3, inls_ok s dis sub n xs ys _ q h2⟩
        | dct ks xs =>
          rw [q0] at e
          obtain ⟨vs, h3, h4, h2⟩ := RO.dict ro
          cases q : inls st n xs with
          | none => simp only [q] at e; cases e
          | some ys => simp only [q] at e; cases e; exact ⟨a, vs, rfl, na, by simp, .inl h3, h4, inls_ok s dis sub n xs ys _ q h2⟩
        | ins c ks xs =>
          rw [q0] at e
          obtain ⟨dx, vs, h3, h4, h2⟩ := RO.inst ro
          cases q : inls st n xs with
          | none => simp only [q] at e; cases e
          | some ys => simp only [q] at e; cases e; exact ⟨a, dx, vs, rfl, na, by simp, h3, h4, inls_ok s dis sub n xs ys _ q h2⟩
        | dcq ks xs => rw [q0] at e; cases e
        | hid => rw [q0] at e; cases e
        | tbl m => rw [q0] at e; cases e
theorem inls_ok (s : RS Γ F ρ H st) (dis : ∀ a ∈ F', a ∉ ρ) (sub : ∀ a ∈ F', a ∈ F) : ∀ (n : Nat) (ts ts' : List T) (vs : List V), inls st n ts = some ts' → RVs Γ F ρ H ts vs → RVs Γ F' [] H ts' vs
  | 0, _, _, _, e, _ => by simp [inls] at e
  | n + 1, ts, ts', vs, e, r => by
    cases ts with
    | nil => rw [inls] at e; cases e; exact r
    | cons t ts =>
      obtain ⟨v, vr, rfl, r1, r2⟩ := r
      simp only [inls] at e
      cases q : inl st n t with
      | none => rw [q] at e; cases e
      | some y =>
        rw [q] at e
        cases q2 : inls st n ts with
        | none => simp only [q2] at e; cases e
        | some ys => simp only [q2] at e; cases e; exact ⟨v, vr, rfl, inl_ok s dis sub n t y v q r1, inls_ok s dis sub n ts ys vr q2 r2⟩
end
mutual
theorem nrf_ok (hF : ∀ a ∈ F', a ∈ F ∨ a ∈ ρ) : ∀ (n : Nat) (t : T) (v : V), nrf n t = true → RV Γ F ρ H t v → RV Γ F' [] H t v
  | 0, _, _, e, _ => by simp [nrf] at e
  | n + 1, t, v, e, r => by
    have no : ∀ a, a ∉ F → a ∉ ρ → a ∉ F' := fun a h1 h2 z => (hF a z).elim h1 h2
    cases t with
    | non => exact r
    | bl b => exact r
    | int i => exact r
    | str x => exact r
    | fn x => exact r
    | ty x => exact r
    | cls x => exact r
    | scr x =>
      obtain ⟨a, rfl, h⟩ := r
      refine ⟨a, rfl, ?_⟩
      rcases h with ⟨h1, h2, h3⟩ | h
      · exact .inl ⟨no a h1 h2, by simp, h3⟩
      · exact .inr h
    | tup xs =>
      obtain ⟨a, vs, rfl, h1, h2⟩ := r
      exact ⟨a, vs, rfl, h1, nrfs_ok hF n xs vs (by simpa only [nrf] using e) h2⟩
    | lst xs =>
      obtain ⟨a, vs, rfl, n1, n2, h1, h2⟩ := r
      exact ⟨a, vs, rfl, no a n1 n2, by simp, h1, nrfs_ok hF n xs vs (by simpa only [nrf] using e) h2⟩
    | dct ks xs =>
      obtain ⟨a, vs, rfl, n1, n2, h1, h3, h2⟩ := r
      exact ⟨a, vs, rfl, no a n1 n2, by simp, h1, h3, nrfs_ok hF n xs _ (by simpa only [nrf] using e) h2⟩
    | ins c ks xs =>
      obtain ⟨a, dx, vs, rfl, n1, n2, h1, h3, h2⟩ := r
      exact ⟨a, dx, vs, rfl, no a n1 n2, by simp, h1, h3, nrfs_ok hF n xs _ (by simpa only [nrf] using e) h2⟩
    | exc c ks xs =>
      obtain ⟨a, d, rfl, n1, n2, h1, h2⟩ := r
      refine ⟨a, d, rfl, no a n1 n2, by simp, h1, ?_⟩
      rcases h2 with ⟨z1, z2, z3⟩ | ⟨dd, fvs, z1, m1, m2, z2, z3, z4⟩
      · exact .inl ⟨z1, z2, nrfs_ok hF n xs _ (by simpa only [nrf] using e) z3⟩
      · exact .inr ⟨dd, fvs, z1, no dd m1 m2, by simp, z2, z3, nrfs_ok hF n xs _ (by simpa only [nrf] using e) z4⟩
    | lam x =>
      obtain ⟨a, c, rfl, n1, n2, h1, n3, n4, h2⟩ := r
      exact ⟨a, c, rfl, no a n1 n2, by simp, h1, no c n3 n4, by simp, h2⟩
    | ref i => simp [nrf] at e
theorem nrfs_ok (hF : ∀ a ∈ F', a ∈ F ∨ a ∈ ρ) : ∀ (n : Nat) (ts : List T) (vs : List V), nrfs n ts = true → RVs Γ F ρ H ts vs → RVs Γ F' [] H ts vs
  | 0, _, _, e, _ => by simp [nrfs] at e
  | n + 1, ts, vs, e, r => by
    cases ts with
    | nil => exact r
    | cons t ts =>
      obtain ⟨v, vr, rfl, r1, r2⟩ := r
      simp only [nrfs] at e
      cases q : nrf n t with
      | false => rw [q] at e; cases e
      | true =>
        rw [q] at e
        exact ⟨v, vr, rfl, nrf_ok hF n t v q r1, nrfs_ok hF n ts vr e r2⟩
end
mutual
theorem RV.weak (hF : ∀ a, (a ∈ F ∨ a ∈ ρ) → a ∈ F') : ∀ (t : T) (v : V), RV Γ F' [] H t v → RV Γ F ρ H t v
  | .non, _, r => r
  | .bl _, _, r => r
  | .int _, _, r => r
  | .str _, _, r => r
  | .fn _, _, r => r
  | .ty _, _, r => r
  | .cls _, _, r => r
  | .scr x, v, r => by
    obtain ⟨a, rfl, h⟩ := r
    refine ⟨a, rfl, ?_⟩
    rcases h with ⟨h1, h2, h3⟩ | h
    · exact .inl ⟨fun z => h1 (hF a (.inl z)), fun z => h1 (hF a (.inr z)), h3⟩
    · exact .inr h
  | .tup xs, v, r => by
    obtain ⟨a, vs, rfl, h1, h2⟩ := r
    exact ⟨a, vs, rfl, h1, RVs.weak hF xs vs h2⟩
  | .lst xs, v, r => by
    obtain ⟨a, vs, rfl, n1, n2, h1, h2⟩ := r
    exact ⟨a, vs, rfl, fun z => n1 (hF a (.inl z)), fun z => n1 (hF a (.inr z)), h1, RVs.weak hF xs vs h2⟩
  | .dct ks xs, v, r => by
    obtain ⟨a, vs, rfl, n1, n2, h1, h3, h2⟩ := r
    exact ⟨a, vs, rfl, fun z => n1 (hF a (.inl z)), fun z => n1 (hF a (.inr z)), h1, h3, RVs.weak hF xs _ h2⟩
  | .ins c ks xs, v, r => by
    obtain ⟨a, dx, vs, rfl, n1, n2, h1, h3, h2⟩ := r
    exact ⟨a, dx, vs, rfl, fun z => n1 (hF a (.inl z)), fun z => n1 (hF a (.inr z)), h1, h3, RVs.weak hF xs _ h2⟩
  | .exc c ks xs, v, r => by
    obtain ⟨a, d, rfl, n1, n2, h1, h2⟩ := r
    refine ⟨a, d, rfl, fun z => n1 (hF a (.inl z)), fun z => n1 (hF a (.inr z)), h1, ?_⟩
    rcases h2 with ⟨z1, z2, z3⟩ | ⟨dd, fvs, z1, m1, m2, z2, z3, z4⟩
    · exact .inl ⟨z1, z2, RVs.weak hF xs _ z3⟩
    · exact .inr ⟨dd, fvs, z1, fun z => m1 (hF dd (.inl z)), fun z => m1 (hF dd (.inr z)), z2, z3, RVs.weak hF xs _ z4⟩
  | .lam x, v, r => by
    obtain ⟨a, c, rfl, n1, n2, h1, n3, n4, h2⟩ := r
    exact ⟨a, c, rfl, fun z => n1 (hF a (.inl z)), fun z => n1 (hF a (.inr z)), h1, fun z => n3 (hF c (.inl z)), fun z => n3 (hF c (.inr z)), h2⟩
  | .ref i, v, r => by
    obtain ⟨a, rfl, h⟩ := r
    simp at h
theorem RVs.weak (hF : ∀ a, (a ∈ F ∨ a ∈ ρ) → a ∈ F') : ∀ (ts : List T) (vs : List V), RVs Γ F' [] H ts vs → RVs Γ F ρ H ts vs
  | [], _, r => r
  | t :: ts, _, r => by
    obtain ⟨v, vr, rfl, r1, r2⟩ := r
    exact ⟨v, vr, rfl, RV.weak hF t v r1, RVs.weak hF ts vr r2⟩
end
mutual
theorem pln_ok : ∀ (n : Nat) (t : T) (v : V), pln n t = true → RV Γ F' ρ' H t v → RV Γ F ρ H t v
  | 0, _, _, e, _ => by simp [pln] at e
  | n + 1, t, v, e, r => by
    cases t with
    | non => exact r
    | bl b => exact r
    | int i => exact r
    | str x => exact r
    | fn x => exact r
    | ty x => exact r
    | cls x => exact r
    | tup xs =>
      obtain ⟨a, vs, rfl, h1, h2⟩ := r
      exact ⟨a, vs, rfl, h1, plns_ok n xs vs (by simpa only [pln] using e) h2⟩
    | _ => simp [pln] at e
theorem plns_ok : ∀ (n : Nat) (ts : List T) (vs : List V), plns n ts = true → RVs Γ F' ρ' H ts vs → RVs Γ F ρ H ts vs
  | 0, _, _, e, _ => by simp [plns] at e
  | n + 1, ts, vs, e, r => by
    cases ts with
    | nil => exact r
    | cons t ts =>
      obtain ⟨v, vr, rfl, r1, r2⟩ := r
      simp only [plns] at e
      cases q : pln n t with
      | false => rw [q] at e; cases e
      | true =>
        rw [q] at e
        exact ⟨v, vr, rfl, pln_ok n t v q r1, plns_ok n ts vr e r2⟩
end
end

/-! ### defs -/
abbrev MF := List T → List O → Rs T
def spOf (Γ : Gam) (n : Nat) (m : MF) : Sp := fun vs H Q E => ∃ (ts : List T) (F ρ : List Addr) (st : List O), SR Γ F ρ H st ∧ RVs Γ F ρ H ts vs ∧ ts.length = n ∧ Ran Γ F (RT Γ F) (m ts st) ρ st H E Q
/-- a call on all that stands -/
def mCall (n : Nat) (m : MF) (ds : List T) (args : M (List T)) : ME := fun σ st => (args σ st).bind fun ts st1 => match Nat.beq (ts ++ ds).length n with
  | true => m (ts ++ ds) st1
  | false => .no
def isoOk (t : T) (stc : List O) : Option T := match stc with
  | [] => some t
  | _ => inl stc 200 t
def isoOks (t : List T) (stc : List O) : Option (List T) := match stc with
  | [] => some t
  | _ => inls stc 200 t
def noRefs (st : List O) (ts : List T) : Bool := match st with
  | [] => true
  | _ => nrfs 200 ts
/-- what a call on no own objects gives back -/
def isoEnd (plain : Bool) (r : Rs T) (st : List O) : Rs T := match r with
  | .ok t stc => match isoOk t stc with
    | some t' => match plain with
      | false => .ok t' st
      | true => match pln 200 t' with
        | true => .ok t' st
        | false => .no
    | none => .no
  | .exc e stc => match isoOks e.vs stc with
    | some vs => match plain with
      | false => .exc ⟨e.c, e.fs, vs⟩ st
      | true => match plns 200 vs with
        | true => .exc ⟨e.c, e.fs, vs⟩ st
        | false => .no
    | none => .no
  | .no => .no
/-- a call of a def that changes nothing of what is handed in -/
def iso (m : MF) : MF := fun ts st => match noRefs st ts with
  | true => isoEnd false (m ts []) st
  | false => match inls st 200 ts with
    | some ts' => isoEnd true (m ts' []) st
    | none => .no
section
variable {Γ : Gam} {F F' ρ : List Addr} {H : Hp} {st : List O} {m : MF} {ts : List T} {vs : List V} {E : XK} {Q : VK}
theorem isoOk_ok {stc : List O} {ρ' : List Addr} {t t' : T} {v : V} (s : SR Γ F ρ' H stc) (e : isoOk t stc = some t') (r : RV Γ F ρ' H t v) : RV Γ F [] H t' v := by
  unfold isoOk at e
  cases stc with
  | nil =>
    cases e
    have : ρ' = [] := List.eq_nil_of_length_eq_zero s.rs.len
    subst this; exact r
  | cons o os => exact inl_ok s.rs s.dis (fun a z => z) _ _ _ _ e r
theorem isoOks_ok {stc : List O} {ρ' : List Addr} {t t' : List T} {v : List V} (s : SR Γ F ρ' H stc) (e : isoOks t stc = some t') (r : RVs Γ F ρ' H t v) : RVs Γ F [] H t' v := by
  unfold isoOks at e
  cases stc with
  | nil =>
    cases e
    have : ρ' = [] := List.eq_nil_of_length_eq_zero s.rs.len
    subst this; exact r
  | cons o os => exact inls_ok s.rs s.dis (fun a z => z) _ _ _ _ e r
theorem keep_same {H' : Hp} (k : Keep [] H H') : Same H H' := fun a o e => k a o e (.inl (by simp))
theorem isoEnd_ok {plain : Bool} (s : SR Γ F ρ H st) (s' : SR Γ F' [] H []) (hF : plain = false → ∀ a, (a ∈ F ∨ a ∈ ρ) → a ∈ F') (hF2 : ∀ a, a ∈ F → a ∈ F') {r : Rs T}
    (h : Ran Γ F (RT Γ F) (isoEnd plain r st) ρ st H E Q) : Ran Γ F' (RT Γ F') r [] [] H E Q := by
  cases r with
  | no => exact h
  | ok t stc =>
    intro v H' ρ' p rv
    have sc := s'.post p
    unfold isoEnd at h
    simp only at h
    cases e : isoOk t stc with
    | none => rw [e] at h; exact h.elim
    | some t' =>
      rw [e] at h
      have r1 := isoOk_ok sc e rv
      have ps : Post Γ F ρ H ρ st H' := .same s.rs (keep_same p.keep)
      cases plain with
      | false => exact Ran.ends h ps (RV.weak (hF rfl) _ _ r1)
      | true =>
        simp only at h
        cases e2 : pln 200 t' with
        | false => rw [e2] at h; exact h.elim
        | true => rw [e2] at h; exact Ran.ends h ps (pln_ok 200 t' v e2 r1)
  | exc e stc =>
    intro cls d H' ρ' p rx
    have sc := s'.post p
    unfold isoEnd at h
    simp only at h
    have ps : Post Γ F ρ H ρ st H' := .same s.rs (keep_same p.keep)
    obtain ⟨e1, rx⟩ := rx
    cases q : isoOks e.vs stc with
    | none => rw [q] at h; exact h.elim
    | some vs =>
      rw [q] at h
      have fin : ∀ (vs : List T), (∀ ws, RVs Γ F' ρ' H' e.vs ws → RVs Γ F ρ H' vs ws) → RX Γ F ρ H' ⟨e.c, e.fs, vs⟩ cls d := fun vs hv => by
        refine ⟨e1, ?_⟩
        rcases rx with ⟨a, b, c⟩ | ⟨dd, fvs, a, b, c, x, f, g⟩
        · exact .inl ⟨a, b, hv _ c⟩
        · refine .inr ⟨dd, fvs, a, fun z => b (hF2 dd z), fun z => ?_, x, f, hv _ g⟩
          have nd : H dd = none := by
            cases q3 : H dd with
            | none => rfl
            | some o =>
              -- dd was tracked at the entry: then an own object of the caller's
              obtain ⟨w, e5, e6, e7⟩ := s.rs.mem z
              have e8 := keep_same p.keep dd w e5
              rw [x] at e8; cases e8
              have ro := s.rs
              obtain ⟨n, hn, e9⟩ := List.mem_iff_getElem.mp z
              have hn' : n < st.length := by rw [← ro.len]; exact hn
              have r5 := ro.at_ n st[n] dd (List.getElem?_eq_getElem hn') (by rw [List.getElem?_eq_getElem hn, e9])
              cases q6 : st[n] with
              | lst xs => rw [q6] at r5; obtain ⟨vs, e10, _⟩ := r5; rw [e5] at e10; cases e10
              | dct ks xs => rw [q6] at r5; obtain ⟨vs, e10, _⟩ := r5; rw [e5] at e10; cases e10
              | ins c fs xs => rw [q6] at r5; obtain ⟨dx, vs, e10, _⟩ := r5; rw [e5] at e10; cases e10
              | dcq ks xs => rw [q6] at r5; obtain ⟨ms, vs, e10, _⟩ := r5; rw [e5] at e10; cases e10
              | hid => rw [q6] at r5; obtain ⟨vs, e10⟩ := r5; rw [e5] at e10; cases e10
              | tbl m => rw [q6] at r5; obtain ⟨_, vs, e10, _⟩ := r5; rw [e5] at e10; cases e10
          obtain ⟨w, e5, _⟩ := s.rs.mem z
          rw [nd] at e5; cases e5
      have iok : ∀ ws, RVs Γ F' ρ' H' e.vs ws → RVs Γ F' [] H' vs ws := fun ws r => isoOks_ok sc q r
      cases plain with
      | false => exact h cls d H' ρ ps (fin vs fun ws r => RVs.weak (hF rfl) _ _ (iok ws r))
      | true =>
        simp only at h
        cases e2 : plns 200 vs with
        | false => rw [e2] at h; exact h.elim
        | true => rw [e2] at h; exact h cls d H' ρ ps (fin vs fun ws r => plns_ok 200 vs ws e2 (iok ws r))
/-- from a call that changes nothing to the def's promise -/
theorem iso_sp {n : Nat} (s : SR Γ F ρ H st) (r : RVs Γ F ρ H ts vs) (l : ts.length = n) (h : Ran Γ F (RT Γ F) (iso m ts st) ρ st H E Q) : spOf Γ n m vs H Q E := by
  have lm : ∀ (n : Nat) (ts ts' : List T), inls st n ts = some ts' → ts'.length = ts.length := by
    intro n
    induction n with
    | zero => intro ts ts' e; simp [inls] at e
    | succ n ih =>
      intro ts ts' e
      cases ts with
      | nil => rw [inls] at e; cases e; rfl
      | cons t ts =>
        simp only [inls] at e
        cases q : inl st n t with
        | none => rw [q] at e; cases e
        | some y =>
          rw [q] at e
          cases q2 : inls st n ts with
          | none => simp only [q2] at e; cases e
          | some ys => simp only [q2] at e; cases e; simp [ih ts ys q2]
  unfold iso at h
  cases q : noRefs st ts with
  | true =>
    rw [q] at h
    have s' : SR Γ (F ++ ρ) [] H [] := ⟨.nil, fun a z => by
      rcases List.mem_append.mp z with z | z
      · exact s.trk a z
      · obtain ⟨u, e, _⟩ := s.rs.mem z; rw [e]; simp, by simp⟩
    refine ⟨ts, F ++ ρ, [], [], s', ?_, l, isoEnd_ok s s' (fun _ a z => List.mem_append.mpr z) (fun a z => List.mem_append_left _ z) h⟩
    unfold noRefs at q
    cases st with
    | nil =>
      have : ρ = [] := List.eq_nil_of_length_eq_zero s.rs.len
      subst this
      rw [List.append_nil]; exact r
    | cons o os => exact nrfs_ok (fun a z => List.mem_append.mp z) 200 ts vs q r
  | false =>
    rw [q] at h
    cases q2 : inls st 200 ts with
    | none => simp only [q2] at h; exact h.elim
    | some ts' =>
      simp only [q2] at h
      have s' : SR Γ F [] H [] := ⟨.nil, s.trk, by simp⟩
      exact ⟨ts', F, [], [], s', inls_ok s.rs s.dis (fun a z => z) _ _ _ _ q2 r, (lm _ _ _ q2).trans l, isoEnd_ok s s' (fun z => by cases z) (fun a z => z) h⟩
end
section
variable {Γ : Gam} {X : Cx} {W : WX} {k : Nat} {f : Addr} {fd : FuncData} {ps : List Str} {dvs : List V} {ds : List Value} {dts : List T} {x : Str} {p pos : Pos} {e : Expr} {es : List Expr} {n : Nat} {m : MF} {ma : M (List T)}
/-- the defaults as trees -/
def Dts (Γ : Gam) (dts : List T) (dvs : List V) : Prop := ∀ F ρ H, RVs Γ F ρ H dts dvs
theorem dts_nil : Dts Γ [] [] := fun _ _ _ => rfl
theorem sE_callOf {m' : MF} (hm' : ∀ F ρ st H ts vs Q E, SR Γ F ρ H st → RVs Γ F ρ H ts vs → ts.length = n → Ran Γ F (RT Γ F) (m' ts st) ρ st H E Q → spOf Γ n m vs H Q E)
    (G : FnOk X.prog X.w X.K X.mg X.base (L2.CX X.prog X.w) k f fd ps (spOf Γ n m)) (tk : Takes X W) (hr : Room k X.A) (hm : X.mg x = some (.ref f)) (hk : PySem.W.keepIn X.K (.ref f) = true) (hb : Binds X.K fd ps ds) (hd : Vals dvs ds) (hdt : Dts Γ dts dvs)
    (ha : SA Γ X W (e :: es) ma) (hg : Gl X x := by rfl) (hdb : (x == ("__debug__" : Str)) = false := by decide)
    (he : starEach (e :: es) X.env = (false, eval e X.env) :: starEach es X.env := by rfl) (hpl : (backTo pos (starEach es X.env)).any (·.1) = false := by rfl) : SE Γ X W (.Call (.Name x p) (e :: es) [] pos) (mCall n m' dts ma) :=
  (pe_callSD (E := fun σ => WE W σ) G hr hg hm hk hb hd (fun σ => passAt tk σ) ha hdb he hpl).imp fun σ H Q ⟨σp, F, ρ, st, s, re, h⟩ => ⟨σp, F, ρ, st, s, re, Ran.bind s h fun ts st1 vs H1 ρ1 _ s1 p1 r1 h1 => by
    cases q : Nat.beq (ts ++ dts).length n with
    | false => rw [q] at h1; exact h1.elim
    | true => rw [q] at h1; exact hm' _ _ _ _ _ _ _ _ s1 (r1.append (hdt _ _ _)) (Nat.eq_of_beq_eq_true q) h1⟩
theorem sE_call (G : FnOk X.prog X.w X.K X.mg X.base (L2.CX X.prog X.w) k f fd ps (spOf Γ n m)) (tk : Takes X W) (hr : Room k X.A) (hm : X.mg x = some (.ref f)) (hk : PySem.W.keepIn X.K (.ref f) = true) (hb : Binds X.K fd ps ds) (hd : Vals dvs ds) (hdt : Dts Γ dts dvs)
    (ha : SA Γ X W (e :: es) ma) (hg : Gl X x := by rfl) (hdb : (x == ("__debug__" : Str)) = false := by decide)
    (he : starEach (e :: es) X.env = (false, eval e X.env) :: starEach es X.env := by rfl) (hpl : (backTo pos (starEach es X.env)).any (·.1) = false := by rfl) : SE Γ X W (.Call (.Name x p) (e :: es) [] pos) (mCall n m dts ma) :=
  sE_callOf (m' := m) (fun F ρ st H ts vs Q E s r l h => ⟨ts, F, ρ, st, s, r, l, h⟩) G tk hr hm hk hb hd hdt ha hg hdb he hpl
theorem sE_callI (G : FnOk X.prog X.w X.K X.mg X.base (L2.CX X.prog X.w) k f fd ps (spOf Γ n m)) (tk : Takes X W) (hr : Room k X.A) (hm : X.mg x = some (.ref f)) (hk : PySem.W.keepIn X.K (.ref f) = true) (hb : Binds X.K fd ps ds) (hd : Vals dvs ds) (hdt : Dts Γ dts dvs)
    (ha : SA Γ X W (e :: es) ma) (hg : Gl X x := by rfl) (hdb : (x == ("__debug__" : Str)) = false := by decide)
    (he : starEach (e :: es) X.env = (false, eval e X.env) :: starEach es X.env := by rfl) (hpl : (backTo pos (starEach es X.env)).any (·.1) = false := by rfl) : SE Γ X W (.Call (.Name x p) (e :: es) [] pos) (mCall n (iso m) dts ma) :=
  sE_callOf (m' := iso m) (fun F ρ st H ts vs Q E s r l h => iso_sp s r l h) G tk hr hm hk hb hd hdt ha hg hdb he hpl
end

/-! ### built-in functions -/
def CallOk (Γ : Gam) (r : List V → Hp → VK → Prop) (f : MF) : Prop :=
  ∀ (F ρ : List Addr) (st : List O) (H : Hp) (xs : List V) (ts : List T) (Q : VK) (E : XK), SR Γ F ρ H st → RVs Γ F ρ H ts xs → Ran Γ F (RT Γ F) (f ts st) ρ st H E Q → r xs H Q
def mCB (f : MF) (args : M (List T)) : ME := fun σ st => (args σ st).bind fun ts st1 => f ts st1
section
variable {Γ : Gam} {X : Cx} {W : WX} {x : Str} {p pos : Pos} {e : Expr} {es : List Expr} {ma : M (List T)} {id T' : String} {r : List V → Hp → VK → Prop} {f : MF}
theorem sE_callB (hc : CallR X (.builtin id) r) (hf : CallOk Γ r f) (hm : X.mg x = none) (hv : bootBuiltins x = some (.builtin id)) (ha : SA Γ X W (e :: es) ma) (hg : Gl X x := by rfl) (hn : x ≠ "__name__" := by decide) (hdb : (x == ("__debug__" : Str)) = false := by decide)
    (he : starEach (e :: es) X.env = (false, eval e X.env) :: starEach es X.env := by rfl) (hpl : (backTo pos (starEach es X.env)).any (·.1) = false := by rfl) : SE Γ X W (.Call (.Name x p) (e :: es) [] pos) (mCB f ma) :=
  (pe_callB hc hg hm hv ha hn hdb he hpl).imp fun σ H Q ⟨σp, F, ρ, st, s, re, h⟩ => ⟨σp, F, ρ, st, s, re, Ran.bind s h fun ts st1 vs H1 ρ1 _ s1 p1 r1 h1 => hf _ _ _ _ _ _ _ _ s1 r1 h1⟩
theorem sE_callTy (hc : CallR X (.type T') r) (hf : CallOk Γ r f) (hm : X.mg x = none) (hv : bootBuiltins x = some (.type T')) (ha : SA Γ X W (e :: es) ma) (hg : Gl X x := by rfl) (hn : x ≠ "__name__" := by decide) (hdb : (x == ("__debug__" : Str)) = false := by decide)
    (he : starEach (e :: es) X.env = (false, eval e X.env) :: starEach es X.env := by rfl) (hpl : (backTo pos (starEach es X.env)).any (·.1) = false := by rfl) : SE Γ X W (.Call (.Name x p) (e :: es) [] pos) (mCB f ma) :=
  (pe_callTy hc hg hm hv ha hn hdb he hpl).imp fun σ H Q ⟨σp, F, ρ, st, s, re, h⟩ => ⟨σp, F, ρ, st, s, re, Ran.bind s h fun ts st1 vs H1 ρ1 _ s1 p1 r1 h1 => hf _ _ _ _ _ _ _ _ s1 r1 h1⟩
end
end WR
namespace WR
open PySem PySem.Spec PyProof.Rows L2
theorem drawsL {prog : Program} {w : World} {A : Around} (hh : A.handled = none) (it l : Addr) (hne : l ≠ it) (items : Array Value) (k : Nat) :
    Draws prog w A it [it, l] (items.size - k) (fun i v => items[k + i]? = some v) (fun i h => h.IsListIter it l (k + i) ∧ h.IsList l items) where
  live := fun _ _ st => let ⟨o, ho, _⟩ := st.1; ⟨o, ho⟩
  frame := fun _ _ _ st hk => ⟨st.1.at fun o e => hk it (List.mem_cons_self ..) o e, st.2.at fun o e => hk l (by simp) o e⟩
  item := fun i s Q E hi st hQ => by
    have lt : k + i < items.size := by omega
    refine wpAny_nextOf_list_item st.1 st.2 (x := items[k + i]) (Array.getElem?_eq_getElem lt) fun h9 n9 s9 => ?_
    exact hQ _ h9 s.toks (Array.getElem?_eq_getElem lt) ⟨n9, st.2.extBut s9.extBut hne⟩ s9
  done := fun s Q E st hE => wpAny_nextOf_list_end hh st.1 st.2 (Array.getElem?_eq_none (by omega)) hE
theorem drawsT {prog : Program} {w : World} {A : Around} (hh : A.handled = none) (it l : Addr) (hne : l ≠ it) (items : Array Value) (k : Nat) :
    Draws prog w A it [it, l] (items.size - k) (fun i v => items[k + i]? = some v) (fun i h => h.IsTupleIter it l (k + i) ∧ h.IsTuple l items) where
  live := fun _ _ st => let ⟨o, ho, _⟩ := st.1; ⟨o, ho⟩
  frame := fun _ _ _ st hk => ⟨st.1.at fun o e => hk it (List.mem_cons_self ..) o e, st.2.at fun o e => hk l (by simp) o e⟩
  item := fun i s Q E hi st hQ => by
    have lt : k + i < items.size := by omega
    refine wpAny_nextOf_tuple_item st.1 st.2 (x := items[k + i]) (Array.getElem?_eq_getElem lt) fun h9 n9 s9 => ?_
    exact hQ _ h9 s.toks (Array.getElem?_eq_getElem lt) ⟨n9, st.2.extBut s9.extBut hne⟩ s9
  done := fun s Q E st hE => wpAny_nextOf_tuple_end hh st.1 st.2 (Array.getElem?_eq_none (by omega)) hE
/-! ### zip LL -/
def ItZLL (K : PySem.W.Frag) (a b : Addr) : It where
  go := fun i H => ∃ (xs ys : List V) (x y : V), SqL K H a xs ∧ SqL K H b ys ∧ xs[i]? = some x ∧ ys[i]? = some y
  yld := fun i H v H' => ∃ (p : Addr) (o : Obj) (x y : V), v = .ref p ∧ H p = none ∧ o.dict = none ∧ H' = upd H p (.frz o (.tup [x, y])) ∧ (∀ xs, SqL K H a xs → xs[i]? = some x) ∧ ∀ ys, SqL K H b ys → ys[i]? = some y
  stop := fun i H => ∃ xs ys : List V, SqL K H a xs ∧ SqL K H b ys ∧ (xs.length ≤ i ∨ ys.length ≤ i)
theorem turnZLL {P : Program} {w : World} {K : PySem.W.Frag} {elts : List Expr} {kk : Nat} {tpos : Pos} {a b z u o i1 i2 : Addr} (S : ZipSep2 z u o i1 i2 [i1, a] [i2, b]) (ha : a ≠ i1) (hb : b ≠ i2) :
    Turn P w K (.Tuple elts kk tpos) (ItZLL K a b) [z, u, o, i1, i2] z
      (fun i h => IsZip h z u o .none ∧ IsTupOf2 h u (.ref i1) (.ref i2) ∧ (∃ x y, IsTupOf2 h o x y) ∧ h.IsListIter i1 a i ∧ h.IsListIter i2 b i) where
  mem := List.mem_cons_self ..
  obj := fun i h st c hc => by
    obtain ⟨q1, q2, ⟨x, y, q3⟩, ⟨o1, e1, _, d1⟩, ⟨o2, e2, _, d2⟩⟩ := st
    simp only [List.mem_cons, List.not_mem_nil, or_false] at hc
    rcases hc with rfl | rfl | rfl | rfl | rfl
    · exact ⟨_, q1, fun v r => nomatch r⟩
    · exact ⟨_, q2, fun v r => nomatch r⟩
    · exact ⟨_, q3, fun v r => nomatch r⟩
    · exact ⟨o1, e1, fun v r => by rw [d1] at r; cases r⟩
    · exact ⟨o2, e2, fun v r => by rw [d2] at r; cases r⟩
  keep := fun i h h' st k => by
    obtain ⟨q1, q2, ⟨x, y, q3⟩, q4, q5⟩ := st
    exact ⟨k z (by simp) _ q1, k u (by simp) _ q2, ⟨x, y, k o (by simp) _ q3⟩, q4.at fun o r => k i1 (by simp) o r, q5.at fun o r => k i2 (by simp) o r⟩
  item := by
    intro X hP hw hK hc i pins s σ H E I hf st go
    subst hP hw hK
    obtain ⟨q1, q2, ⟨x0, y0, q3⟩, q4, q5⟩ := st
    obtain ⟨xs, ys, x, y, sx, sy, gx, gy⟩ := go
    obtain ⟨its, rv, p, _⟩ := I.list sx
    obtain ⟨its2, rv2, p2, _⟩ := I.list sy
    obtain ⟨v, hv, r1⟩ := rv.get gx
    obtain ⟨v2, hv2, r2⟩ := rv2.get gy
    have lz : z < s.heap.objs.size := Heap.lt_size q1
    have hd := I.ok.hd hc
    have l1 : i < its.toArray.size := by have := (List.getElem?_eq_some_iff.mp hv).1; simpa using this
    have l2 : i < its2.toArray.size := by have := (List.getElem?_eq_some_iff.mp hv2).1; simpa using this
    refine wpAny_pyNext_zipD2_item S (Draws.list (A := X.A.in1) hd i1 a ha its.toArray) (Draws.list (A := X.A.in1) hd i2 b hb its2.toArray) q1 q2 q3 ⟨q4, p.isList⟩ ⟨q5, p2.isList⟩ l1 l2 fun w1 w2 h' tk g1 g2 z' o' t1 t2 tp sz kp => ?_
    have w1e : w1 = v := by
      have : its.toArray[i]? = some w1 := g1
      simp only [List.getElem?_toArray] at this
      rw [hv] at this
      exact (Option.some.inj this).symm
    have w2e : w2 = v2 := by
      have : its2.toArray[i]? = some w2 := g2
      simp only [List.getElem?_toArray] at this
      rw [hv2] at this
      exact (Option.some.inj this).symm
    subst w1e
    subst w2e
    refine ⟨_, rfl, wpAny_letOwnedTupleGo_zip (s := { s with heap := h', toks := tk }) z' fun h9 z9 sb => ?_⟩
    have tp9 : h9.get? s.heap.objs.size = some { cls := .type "tuple", data := .seq #[w1, w2] } := (sb.2 _ (Nat.ne_of_gt lz)).trans tp
    have new : ObjOk X.prog X.w (upd H s.heap.objs.size (.frz (tupO [w1, w2]) (.tup [x, y]))) h9 s.heap.objs.size (.frz (tupO [w1, w2]) (.tup [x, y])) :=
      ⟨tp9, by show 2 ≤ sizeLine; decide, [w1, w2], .cons r1 (.cons r2 .nil), ⟨_, tp9, rfl, _, rfl⟩⟩
    have I9 : Inv X pins σ (upd H s.heap.objs.size (.frz (tupO [w1, w2]) (.tup [x, y]))) { s with heap := h9, toks := tk } :=
      I.turnedNew (t' := tk) (ch := [z, u, o, i1, i2]) (fun c ob nb q => (sb.2 c (fun r => nb (by simp [r]))).trans (kp c ob (fun r => nb (by simp [r])) (fun r => nb (by simp [r])) (fun r => nb (by simp [r])) (fun r => nb (by simp [r])) q)) hf (Nat.le_refl _) new
    have n1 : i1 ≠ z := fun e => S.zf1 (by rw [← e]; simp)
    have n2 : i2 ≠ z := fun e => S.zf2 (by rw [← e]; simp)
    refine ⟨.ref s.heap.objs.size, _, I9, rfl, ⟨_, tupO [w1, w2], x, y, rfl, I.hok.fresh (Nat.le_refl _), rfl, rfl, fun l hl => by rw [I.list_inj hl sx]; exact gx, fun l hl => by rw [I.list_inj hl sy]; exact gy⟩, ⟨z9, ?_, ⟨w1, w2, ?_⟩, ?_, ?_⟩, fun c hcm => ?_⟩
    · exact (sb.2 _ S.TIz).trans (kp _ _ S.TIz S.TITO S.TIi1 S.TIi2 q2)
    · exact (sb.2 _ S.TOz).trans o'
    · exact t1.1.at fun o r => (sb.2 _ n1).trans r
    · exact t2.1.at fun o r => (sb.2 _ n2).trans r
    · have lt : c < s.heap.objs.size := by
        simp only [List.mem_cons, List.not_mem_nil, or_false] at hcm
        rcases hcm with rfl | rfl | rfl | rfl | rfl
        · exact lz
        · exact Heap.lt_size q2
        · exact Heap.lt_size q3
        · obtain ⟨_, e1, _⟩ := q4; exact Heap.lt_size e1
        · obtain ⟨_, e1, _⟩ := q5; exact Heap.lt_size e1
      rw [upd_ne (Nat.ne_of_lt lt)]
      exact (hf c hcm).1
  done := by
    intro X hP hw hK hc i pins s σ H E I hf st go
    subst hP hw hK
    obtain ⟨q1, q2, ⟨x0, y0, q3⟩, q4, q5⟩ := st
    obtain ⟨xs, ys, sx, sy, fin⟩ := go
    obtain ⟨its, rv, p, _⟩ := I.list sx
    obtain ⟨its2, rv2, p2, _⟩ := I.list sy
    have hd := I.ok.hd hc
    have l1 := rv.length
    have l2 := rv2.length
    refine wpAny_pyNext_zipD2_end (i := 0) S (drawsL (A := X.A.in1) hd i1 a ha its.toArray i) (drawsL (A := X.A.in1) hd i2 b hb its2.toArray i) q1 q2 q3 ⟨q4, p.isList⟩ ⟨q5, p2.isList⟩ (Nat.zero_le _) (Nat.zero_le _)
      (fin.imp (fun e => by simp; omega) (fun e => by simp; omega)) fun h' tk kp => ⟨rfl, ?_⟩
    exact I.turnedL (t' := tk) (ch := [z, u, o, i1, i2]) (fun c ob nb q => kp c ob (fun r => nb (by simp [r])) (fun r => nb (by simp [r])) (fun r => nb (by simp [r])) (fun r => nb (by simp [r])) q) hf
  self := fun A i s Q E st h => wpAny_pyIter_zip st.1 h
section
variable {X : Cx} {e e2 : Expr} {ta : TA} {p pos tpos : Pos} {elts : List Expr} {kk : Nat}
def iZipLL (K : PySem.W.Frag) (ta : TA) : TI := fun σ H R => ta σ H fun vs H1 => ∃ a b xs ys, vs = [.ref a, .ref b] ∧ SqL K H1 a xs ∧ SqL K H1 b ys ∧ R (ItZLL K a b) H1
theorem pi_zipLL (hg : Gl X "zip") (hm : X.mg "zip" = none) (ha : PA X [e, e2] ta) (hs : starEach [e, e2] X.env = (false, eval e X.env) :: starEach [e2] X.env := by rfl) (hpl : (backTo pos (starEach [e2] X.env)).any (·.1) = false := by rfl) :
    PI X (.Tuple elts kk tpos) (.Call (.Name "zip" p) [e, e2] [] pos) (iZipLL X.K ta) := by
  refine ⟨fun pins s σ H R I h => ?_⟩
  have args := ha.run pos pins s σ H _ I h
  refine Call_ (ld_blt I hg hm PyProof.Rows.boot_zip (PyProof.Rows.callWith_type1 (thn args fun us s1 got => ?_) hs hpl))
  obtain ⟨vs, H1, I1, r1, a, b, xs, ys, ex, sx, sy, q⟩ := got
  subst ex
  match us, r1 with
  | [_, _], .cons r (.cons r' .nil) =>
    cases r
    cases r'
    obtain ⟨its, rv, p1, _⟩ := I1.list sx
    obtain ⟨its2, rv2, p2, _⟩ := I1.list sy
    have la := p1.lt
    have lb := p2.lt
    have five : ∀ c, c ∈ [s1.heap.objs.size + 4, s1.heap.objs.size + 2, s1.heap.objs.size + 3, s1.heap.objs.size, s1.heap.objs.size + 1] → FpOk X pins H1 c := fun c hc => by
      have ge : s1.heap.objs.size ≤ c := by
        simp only [List.mem_cons, List.not_mem_nil, or_false] at hc
        rcases hc with h | h | h | h | h <;> rw [h] <;> omega
      exact I1.fpOk ge (I1.hok.fresh ge)
    have S : ZipSep2 (s1.heap.objs.size + 4) (s1.heap.objs.size + 2) (s1.heap.objs.size + 3) s1.heap.objs.size (s1.heap.objs.size + 1) [s1.heap.objs.size, a] [s1.heap.objs.size + 1, b] :=
      zip_sep2 (fun c hc => by simp at hc; rw [hc]; exact la) (fun c hc => by simp at hc; rw [hc]; exact lb)
    refine zip_begins2 (begins_list a its.toArray) (begins_list b its2.toArray) p1.isList p2.isList fun h' z1 z2 z3 z4 z5 _ hk => wpAny_pyIter_zip z1 ?_
    have I2 : Inv X pins σ H1 { s1 with heap := h' } := I1.kept (t' := s1.toks) hk
    exact ⟨s1.heap.objs.size + 4, _, _, _, H1, rfl, I2, turnZLL S (Nat.ne_of_lt la) (Nat.ne_of_lt (Nat.lt_of_lt_of_le lb (Nat.le_add_right _ _))), ⟨z1, z2, ⟨_, _, z3⟩, ⟨_, z4, rfl, rfl⟩, ⟨_, z5, rfl, rfl⟩⟩, five, q⟩
end
/-! ### zip LT -/
def ItZLT (K : PySem.W.Frag) (a b : Addr) : It where
  go := fun i H => ∃ (xs ys : List V) (x y : V), SqL K H a xs ∧ SqT K H b ys ∧ xs[i]? = some x ∧ ys[i]? = some y
  yld := fun i H v H' => ∃ (p : Addr) (o : Obj) (x y : V), v = .ref p ∧ H p = none ∧ o.dict = none ∧ H' = upd H p (.frz o (.tup [x, y])) ∧ (∀ xs, SqL K H a xs → xs[i]? = some x) ∧ ∀ ys, SqT K H b ys → ys[i]? = some y
  stop := fun i H => ∃ xs ys : List V, SqL K H a xs ∧ SqT K H b ys ∧ (xs.length ≤ i ∨ ys.length ≤ i)
theorem turnZLT {P : Program} {w : World} {K : PySem.W.Frag} {elts : List Expr} {kk : Nat} {tpos : Pos} {a b z u o i1 i2 : Addr} (S : ZipSep2 z u o i1 i2 [i1, a] [i2, b]) (ha : a ≠ i1) (hb : b ≠ i2) :
    Turn P w K (.Tuple elts kk tpos) (ItZLT K a b) [z, u, o, i1, i2] z
      (fun i h => IsZip h z u o .none ∧ IsTupOf2 h u (.ref i1) (.ref i2) ∧ (∃ x y, IsTupOf2 h o x y) ∧ h.IsListIter i1 a i ∧ h.IsTupleIter i2 b i) where
  mem := List.mem_cons_self ..
  obj := fun i h st c hc => by
    obtain ⟨q1, q2, ⟨x, y, q3⟩, ⟨o1, e1, _, d1⟩, ⟨o2, e2, _, d2⟩⟩ := st
    simp only [List.mem_cons, List.not_mem_nil, or_false] at hc
    rcases hc with rfl | rfl | rfl | rfl | rfl
    · exact ⟨_, q1, fun v r => nomatch r⟩
    · exact ⟨_, q2, fun v r => nomatch r⟩
    · exact ⟨_, q3, fun v r => nomatch r⟩
    · exact ⟨o1, e1, fun v r => by rw [d1] at r; cases r⟩
    · exact ⟨o2, e2, fun v r => by rw [d2] at r; cases r⟩
  keep := fun i h h' st k => by
    obtain ⟨q1, q2, ⟨x, y, q3⟩, q4, q5⟩ := st
    exact ⟨k z (by simp) _ q1, k u (by simp) _ q2, ⟨x, y, k o (by simp) _ q3⟩, q4.at fun o r => k i1 (by simp) o r, q5.at fun o r => k i2 (by simp) o r⟩
  item := by
    intro X hP hw hK hc i pins s σ H E I hf st go
    subst hP hw hK
    obtain ⟨q1, q2, ⟨x0, y0, q3⟩, q4, q5⟩ := st
    obtain ⟨xs, ys, x, y, sx, sy, gx, gy⟩ := go
    obtain ⟨its, rv, p, _⟩ := I.list sx
    obtain ⟨its2, rv2, p2, _⟩ := I.tuple sy
    obtain ⟨v, hv, r1⟩ := rv.get gx
    obtain ⟨v2, hv2, r2⟩ := rv2.get gy
    have lz : z < s.heap.objs.size := Heap.lt_size q1
    have hd := I.ok.hd hc
    have l1 : i < its.toArray.size := by have := (List.getElem?_eq_some_iff.mp hv).1; simpa using this
    have l2 : i < its2.toArray.size := by have := (List.getElem?_eq_some_iff.mp hv2).1; simpa using this
    refine wpAny_pyNext_zipD2_item S (Draws.list (A := X.A.in1) hd i1 a ha its.toArray) (Draws.tuple (A := X.A.in1) hd i2 b hb its2.toArray) q1 q2 q3 ⟨q4, p.isList⟩ ⟨q5, p2⟩ l1 l2 fun w1 w2 h' tk g1 g2 z' o' t1 t2 tp sz kp => ?_
    have w1e : w1 = v := by
      have : its.toArray[i]? = some w1 := g1
      simp only [List.getElem?_toArray] at this
      rw [hv] at this
      exact (Option.some.inj this).symm
    have w2e : w2 = v2 := by
      have : its2.toArray[i]? = some w2 := g2
      simp only [List.getElem?_toArray] at this
      rw [hv2] at this
      exact (Option.some.inj this).symm
    subst w1e
    subst w2e
    refine ⟨_, rfl, wpAny_letOwnedTupleGo_zip (s := { s with heap := h', toks := tk }) z' fun h9 z9 sb => ?_⟩
    have tp9 : h9.get? s.heap.objs.size = some { cls := .type "tuple", data := .seq #[w1, w2] } := (sb.2 _ (Nat.ne_of_gt lz)).trans tp
    have new : ObjOk X.prog X.w (upd H s.heap.objs.size (.frz (tupO [w1, w2]) (.tup [x, y]))) h9 s.heap.objs.size (.frz (tupO [w1, w2]) (.tup [x, y])) :=
      ⟨tp9, by show 2 ≤ sizeLine; decide, [w1, w2], .cons r1 (.cons r2 .nil), ⟨_, tp9, rfl, _, rfl⟩⟩
    have I9 : Inv X pins σ (upd H s.heap.objs.size (.frz (tupO [w1, w2]) (.tup [x, y]))) { s with heap := h9, toks := tk } :=
      I.turnedNew (t' := tk) (ch := [z, u, o, i1, i2]) (fun c ob nb q => (sb.2 c (fun r => nb (by simp [r]))).trans (kp c ob (fun r => nb (by simp [r])) (fun r => nb (by simp [r])) (fun r => nb (by simp [r])) (fun r => nb (by simp [r])) q)) hf (Nat.le_refl _) new
    have n1 : i1 ≠ z := fun e => S.zf1 (by rw [← e]; simp)
    have n2 : i2 ≠ z := fun e => S.zf2 (by rw [← e]; simp)
    refine ⟨.ref s.heap.objs.size, _, I9, rfl, ⟨_, tupO [w1, w2], x, y, rfl, I.hok.fresh (Nat.le_refl _), rfl, rfl, fun l hl => by rw [I.list_inj hl sx]; exact gx, fun l hl => by rw [I.tuple_inj hl sy]; exact gy⟩, ⟨z9, ?_, ⟨w1, w2, ?_⟩, ?_, ?_⟩, fun c hcm => ?_⟩
    · exact (sb.2 _ S.TIz).trans (kp _ _ S.TIz S.TITO S.TIi1 S.TIi2 q2)
    · exact (sb.2 _ S.TOz).trans o'
    · exact t1.1.at fun o r => (sb.2 _ n1).trans r
    · exact t2.1.at fun o r => (sb.2 _ n2).trans r
    · have lt : c < s.heap.objs.size := by
        simp only [List.mem_cons, List.not_mem_nil, or_false] at hcm
        rcases hcm with rfl | rfl | rfl | rfl | rfl
        · exact lz
        · exact Heap.lt_size q2
        · exact Heap.lt_size q3
        · obtain ⟨_, e1, _⟩ := q4; exact Heap.lt_size e1
        · obtain ⟨_, e1, _⟩ := q5; exact Heap.lt_size e1
      rw [upd_ne (Nat.ne_of_lt lt)]
      exact (hf c hcm).1
  done := by
    intro X hP hw hK hc i pins s σ H E I hf st go
    subst hP hw hK
    obtain ⟨q1, q2, ⟨x0, y0, q3⟩, q4, q5⟩ := st
    obtain ⟨xs, ys, sx, sy, fin⟩ := go
    obtain ⟨its, rv, p, _⟩ := I.list sx
    obtain ⟨its2, rv2, p2, _⟩ := I.tuple sy
    have hd := I.ok.hd hc
    have l1 := rv.length
    have l2 := rv2.length
    refine wpAny_pyNext_zipD2_end (i := 0) S (drawsL (A := X.A.in1) hd i1 a ha its.toArray i) (drawsT (A := X.A.in1) hd i2 b hb its2.toArray i) q1 q2 q3 ⟨q4, p.isList⟩ ⟨q5, p2⟩ (Nat.zero_le _) (Nat.zero_le _)
      (fin.imp (fun e => by simp; omega) (fun e => by simp; omega)) fun h' tk kp => ⟨rfl, ?_⟩
    exact I.turnedL (t' := tk) (ch := [z, u, o, i1, i2]) (fun c ob nb q => kp c ob (fun r => nb (by simp [r])) (fun r => nb (by simp [r])) (fun r => nb (by simp [r])) (fun r => nb (by simp [r])) q) hf
  self := fun A i s Q E st h => wpAny_pyIter_zip st.1 h
section
variable {X : Cx} {e e2 : Expr} {ta : TA} {p pos tpos : Pos} {elts : List Expr} {kk : Nat}
def iZipLT (K : PySem.W.Frag) (ta : TA) : TI := fun σ H R => ta σ H fun vs H1 => ∃ a b xs ys, vs = [.ref a, .ref b] ∧ SqL K H1 a xs ∧ SqT K H1 b ys ∧ R (ItZLT K a b) H1
theorem pi_zipLT (hg : Gl X "zip") (hm : X.mg "zip" = none) (ha : PA X [e, e2] ta) (hs : starEach [e, e2] X.env = (false, eval e X.env) :: starEach [e2] X.env := by rfl) (hpl : (backTo pos (starEach [e2] X.env)).any (·.1) = false := by rfl) :
    PI X (.Tuple elts kk tpos) (.Call (.Name "zip" p) [e, e2] [] pos) (iZipLT X.K ta) := by
  refine ⟨fun pins s σ H R I h => ?_⟩
  have args := ha.run pos pins s σ H _ I h
  refine Call_ (ld_blt I hg hm PyProof.Rows.boot_zip (PyProof.Rows.callWith_type1 (thn args fun us s1 got => ?_) hs hpl))
  obtain ⟨vs, H1, I1, r1, a, b, xs, ys, ex, sx, sy, q⟩ := got
  subst ex
  match us, r1 with
  | [_, _], .cons r (.cons r' .nil) =>
    cases r
    cases r'
    obtain ⟨its, rv, p1, _⟩ := I1.list sx
    obtain ⟨its2, rv2, p2, _⟩ := I1.tuple sy
    have la := p1.lt
    have lb := p2.lt
    have five : ∀ c, c ∈ [s1.heap.objs.size + 4, s1.heap.objs.size + 2, s1.heap.objs.size + 3, s1.heap.objs.size, s1.heap.objs.size + 1] → FpOk X pins H1 c := fun c hc => by
      have ge : s1.heap.objs.size ≤ c := by
        simp only [List.mem_cons, List.not_mem_nil, or_false] at hc
        rcases hc with h | h | h | h | h <;> rw [h] <;> omega
      exact I1.fpOk ge (I1.hok.fresh ge)
    have S : ZipSep2 (s1.heap.objs.size + 4) (s1.heap.objs.size + 2) (s1.heap.objs.size + 3) s1.heap.objs.size (s1.heap.objs.size + 1) [s1.heap.objs.size, a] [s1.heap.objs.size + 1, b] :=
      zip_sep2 (fun c hc => by simp at hc; rw [hc]; exact la) (fun c hc => by simp at hc; rw [hc]; exact lb)
    refine zip_begins2 (begins_list a its.toArray) (begins_tuple b its2.toArray) p1.isList p2 fun h' z1 z2 z3 z4 z5 _ hk => wpAny_pyIter_zip z1 ?_
    have I2 : Inv X pins σ H1 { s1 with heap := h' } := I1.kept (t' := s1.toks) hk
    exact ⟨s1.heap.objs.size + 4, _, _, _, H1, rfl, I2, turnZLT S (Nat.ne_of_lt la) (Nat.ne_of_lt (Nat.lt_of_lt_of_le lb (Nat.le_add_right _ _))), ⟨z1, z2, ⟨_, _, z3⟩, ⟨_, z4, rfl, rfl⟩, ⟨_, z5, rfl, rfl⟩⟩, five, q⟩
end
/-! ### zip TL -/
def ItZTL (K : PySem.W.Frag) (a b : Addr) : It where
  go := fun i H => ∃ (xs ys : List V) (x y : V), SqT K H a xs ∧ SqL K H b ys ∧ xs[i]? = some x ∧ ys[i]? = some y
  yld := fun i H v H' => ∃ (p : Addr) (o : Obj) (x y : V), v = .ref p ∧ H p = none ∧ o.dict = none ∧ H' = upd H p (.frz o (.tup [x, y])) ∧ (∀ xs, SqT K H a xs → xs[i]? = some x) ∧ ∀ ys, SqL K H b ys → ys[i]? = some y
  stop := fun i H => ∃ xs ys : List V, SqT K H a xs ∧ SqL K H b ys ∧ (xs.length ≤ i ∨ ys.length ≤ i)
theorem turnZTL {P : Program} {w : World} {K : PySem.W.Frag} {elts : List Expr} {kk : Nat} {tpos : Pos} {a b z u o i1 i2 : Addr} (S : ZipSep2 z u o i1 i2 [i1, a] [i2, b]) (ha : a ≠ i1) (hb : b ≠ i2) :
    Turn P w K (.Tuple elts kk tpos) (ItZTL K a b) [z, u, o, i1, i2] z
      (fun i h => IsZip h z u o .none ∧ IsTupOf2 h u (.ref i1) (.ref i2) ∧ (∃ x y, IsTupOf2 h o x y) ∧ h.IsTupleIter i1 a i ∧ h.IsListIter i2 b i) where
  mem := List.mem_cons_self ..
  obj := fun i h st c hc => by
    obtain ⟨q1, q2, ⟨x, y, q3⟩, ⟨o1, e1, _, d1⟩, ⟨o2, e2, _, d2⟩⟩ := st
    simp only [List.mem_cons, List.not_mem_nil, or_false] at hc
    rcases hc with rfl | rfl | rfl | rfl | rfl
    · exact ⟨_, q1, fun v r => nomatch r⟩
    · exact ⟨_, q2, fun v r => nomatch r⟩
    · exact ⟨_, q3, fun v r => nomatch r⟩
    · exact ⟨o1, e1, fun v r => by rw [d1] at r; cases r⟩
    · exact ⟨o2, e2, fun v r => by rw [d2] at r; cases r⟩
  keep := fun i h h' st k => by
    obtain ⟨q1, q2, ⟨x, y, q3⟩, q4, q5⟩ := st
    exact ⟨k z (by simp) _ q1, k u (by simp) _ q2, ⟨x, y, k o (by simp) _ q3⟩, q4.at fun o r => k i1 (by simp) o r, q5.at fun o r => k i2 (by simp) o r⟩
  item := by
    intro X hP hw hK hc i pins s σ H E I hf st go
    subst hP hw hK
    obtain ⟨q1, q2, ⟨x0, y0, q3⟩, q4, q5⟩ := st
    obtain ⟨xs, ys, x, y, sx, sy, gx, gy⟩ := go
    obtain ⟨its, rv, p, _⟩ := I.tuple sx
    obtain ⟨its2, rv2, p2, _⟩ := I.list sy
    obtain ⟨v, hv, r1⟩ := rv.get gx
    obtain ⟨v2, hv2, r2⟩ := rv2.get gy
    have lz : z < s.heap.objs.size := Heap.lt_size q1
    have hd := I.ok.hd hc
    have l1 : i < its.toArray.size := by have := (List.getElem?_eq_some_iff.mp hv).1; simpa using this
    have l2 : i < its2.toArray.size := by have := (List.getElem?_eq_some_iff.mp hv2).1; simpa using this
    refine wpAny_pyNext_zipD2_item S (Draws.tuple (A := X.A.in1) hd i1 a ha its.toArray) (Draws.list (A := X.A.in1) hd i2 b hb its2.toArray) q1 q2 q3 ⟨q4, p⟩ ⟨q5, p2.isList⟩ l1 l2 fun w1 w2 h' tk g1 g2 z' o' t1 t2 tp sz kp => ?_
    have w1e : w1 = v := by
      have : its.toArray[i]? = some w1 := g1
      simp only [List.getElem?_toArray] at this
      rw [hv] at this
      exact (Option.some.inj this).symm
    have w2e : w2 = v2 := by
      have : its2.toArray[i]? = some w2 := g2
      simp only [List.getElem?_toArray] at this
      rw [hv2] at this
      exact (Option.some.inj this).symm
    subst w1e
    subst w2e
    refine ⟨_, rfl, wpAny_letOwnedTupleGo_zip (s := { s with heap := h', toks := tk }) z' fun h9 z9 sb => ?_⟩
    have tp9 : h9.get? s.heap.objs.size = some { cls := .type "tuple", data := .seq #[w1, w2] } := (sb.2 _ (Nat.ne_of_gt lz)).trans tp
    have new : ObjOk X.prog X.w (upd H s.heap.objs.size (.frz (tupO [w1, w2]) (.tup [x, y]))) h9 s.heap.objs.size (.frz (tupO [w1, w2]) (.tup [x, y])) :=
      ⟨tp9, by show 2 ≤ sizeLine; decide, [w1, w2], .cons r1 (.cons r2 .nil), ⟨_, tp9, rfl, _, rfl⟩⟩
    have I9 : Inv X pins σ (upd H s.heap.objs.size (.frz (tupO [w1, w2]) (.tup [x, y]))) { s with heap := h9, toks := tk } :=
      I.turnedNew (t' := tk) (ch := [z, u, o, i1, i2]) (fun c ob nb q => (sb.2 c (fun r => nb (by simp [r]))).trans (kp c ob (fun r => nb (by simp [r])) (fun r => nb (by simp [r])) (fun r => nb (by simp [r])) (fun r => nb (by simp [r])) q)) hf (Nat.le_refl _) new
    have n1 : i1 ≠ z := fun e => S.zf1 (by rw [← e]; simp)
    have n2 : i2 ≠ z := fun e => S.zf2 (by rw [← e]; simp)
    refine ⟨.ref s.heap.objs.size, _, I9, rfl, ⟨_, tupO [w1, w2], x, y, rfl, I.hok.fresh (Nat.le_refl _), rfl, rfl, fun l hl => by rw [I.tuple_inj hl sx]; exact gx, fun l hl => by rw [I.list_inj hl sy]; exact gy⟩, ⟨z9, ?_, ⟨w1, w2, ?_⟩, ?_, ?_⟩, fun c hcm => ?_⟩
    · exact (sb.2 _ S.TIz).trans (kp _ _ S.TIz S.TITO S.TIi1 S.TIi2 q2)
    · exact (sb.2 _ S.TOz).trans o'
    · exact t1.1.at fun o r => (sb.2 _ n1).trans r
    · exact t2.1.at fun o r => (sb.2 _ n2).trans r
    · have lt : c < s.heap.objs.size := by
        simp only [List.mem_cons, List.not_mem_nil, or_false] at hcm
        rcases hcm with rfl | rfl | rfl | rfl | rfl
        · exact lz
        · exact Heap.lt_size q2
        · exact Heap.lt_size q3
        · obtain ⟨_, e1, _⟩ := q4; exact Heap.lt_size e1
        · obtain ⟨_, e1, _⟩ := q5; exact Heap.lt_size e1
      rw [upd_ne (Nat.ne_of_lt lt)]
      exact (hf c hcm).1
  done := by
    intro X hP hw hK hc i pins s σ H E I hf st go
    subst hP hw hK
    obtain ⟨q1, q2, ⟨x0, y0, q3⟩, q4, q5⟩ := st
    obtain ⟨xs, ys, sx, sy, fin⟩ := go
    obtain ⟨its, rv, p, _⟩ := I.tuple sx
    obtain ⟨its2, rv2, p2, _⟩ := I.list sy
    have hd := I.ok.hd hc
    have l1 := rv.length
    have l2 := rv2.length
    refine wpAny_pyNext_zipD2_end (i := 0) S (drawsT (A := X.A.in1) hd i1 a ha its.toArray i) (drawsL (A := X.A.in1) hd i2 b hb its2.toArray i) q1 q2 q3 ⟨q4, p⟩ ⟨q5, p2.isList⟩ (Nat.zero_le _) (Nat.zero_le _)
      (fin.imp (fun e => by simp; omega) (fun e => by simp; omega)) fun h' tk kp => ⟨rfl, ?_⟩
    exact I.turnedL (t' := tk) (ch := [z, u, o, i1, i2]) (fun c ob nb q => kp c ob (fun r => nb (by simp [r])) (fun r => nb (by simp [r])) (fun r => nb (by simp [r])) (fun r => nb (by simp [r])) q) hf
  self := fun A i s Q E st h => wpAny_pyIter_zip st.1 h
section
variable {X : Cx} {e e2 : Expr} {ta : TA} {p pos tpos : Pos} {elts : List Expr} {kk : Nat}
def iZipTL (K : PySem.W.Frag) (ta : TA) : TI := fun σ H R => ta σ H fun vs H1 => ∃ a b xs ys, vs = [.ref a, .ref b] ∧ SqT K H1 a xs ∧ SqL K H1 b ys ∧ R (ItZTL K a b) H1
theorem pi_zipTL (hg : Gl X "zip") (hm : X.mg "zip" = none) (ha : PA X [e, e2] ta) (hs : starEach [e, e2] X.env = (false, eval e X.env) :: starEach [e2] X.env := by rfl) (hpl : (backTo pos (starEach [e2] X.env)).any (·.1) = false := by rfl) :
    PI X (.Tuple elts kk tpos) (.Call (.Name "zip" p) [e, e2] [] pos) (iZipTL X.K ta) := by
  refine ⟨fun pins s σ H R I h => ?_⟩
  have args := ha.run pos pins s σ H _ I h
  refine Call_ (ld_blt I hg hm PyProof.Rows.boot_zip (PyProof.Rows.callWith_type1 (thn args fun us s1 got => ?_) hs hpl))
  obtain ⟨vs, H1, I1, r1, a, b, xs, ys, ex, sx, sy, q⟩ := got
  subst ex
  match us, r1 with
  | [_, _], .cons r (.cons r' .nil) =>
    cases r
    cases r'
    obtain ⟨its, rv, p1, _⟩ := I1.tuple sx
    obtain ⟨its2, rv2, p2, _⟩ := I1.list sy
    have la := p1.lt
    have lb := p2.lt
    have five : ∀ c, c ∈ [s1.heap.objs.size + 4, s1.heap.objs.size + 2, s1.heap.objs.size + 3, s1.heap.objs.size, s1.heap.objs.size + 1] → FpOk X pins H1 c := fun c hc => by
      have ge : s1.heap.objs.size ≤ c := by
        simp only [List.mem_cons, List.not_mem_nil, or_false] at hc
        rcases hc with h | h | h | h | h <;> rw [h] <;> omega
      exact I1.fpOk ge (I1.hok.fresh ge)
    have S : ZipSep2 (s1.heap.objs.size + 4) (s1.heap.objs.size + 2) (s1.heap.objs.size + 3) s1.heap.objs.size (s1.heap.objs.size + 1) [s1.heap.objs.size, a] [s1.heap.objs.size + 1, b] :=
      zip_sep2 (fun c hc => by simp at hc; rw [hc]; exact la) (fun c hc => by simp at hc; rw [hc]; exact lb)
    refine zip_begins2 (begins_tuple a its.toArray) (begins_list b its2.toArray) p1 p2.isList fun h' z1 z2 z3 z4 z5 _ hk => wpAny_pyIter_zip z1 ?_
    have I2 : Inv X pins σ H1 { s1 with heap := h' } := I1.kept (t' := s1.toks) hk
    exact ⟨s1.heap.objs.size + 4, _, _, _, H1, rfl, I2, turnZTL S (Nat.ne_of_lt la) (Nat.ne_of_lt (Nat.lt_of_lt_of_le lb (Nat.le_add_right _ _))), ⟨z1, z2, ⟨_, _, z3⟩, ⟨_, z4, rfl, rfl⟩, ⟨_, z5, rfl, rfl⟩⟩, five, q⟩
end
/-! ### zip TT -/
def ItZTT (K : PySem.W.Frag) (a b : Addr) : It where
  go := fun i H => ∃ (xs ys : List V) (x y : V), SqT K H a xs ∧ SqT K H b ys ∧ xs[i]? = some x ∧ ys[i]? = some y
  yld := fun i H v H' => ∃ (p : Addr) (o : Obj) (x y : V), v = .ref p ∧ H p = none ∧ o.dict = none ∧ H' = upd H p (.frz o (.tup [x, y])) ∧ (∀ xs, SqT K H a xs → xs[i]? = some x) ∧ ∀ ys, SqT K H b ys → ys[i]? = some y
  stop := fun i H => ∃ xs ys : List V, SqT K H a xs ∧ SqT K H b ys ∧ (xs.length ≤ i ∨ ys.length ≤ i)
theorem turnZTT {P : Program} {w : World} {K : PySem.W.Frag} {elts : List Expr} {kk : Nat} {tpos : Pos} {a b z u o i1 i2 : Addr} (S : ZipSep2 z u o i1 i2 [i1, a] [i2, b]) (ha : a ≠ i1) (hb : b ≠ i2) :
    Turn P w K (.Tuple elts kk tpos) (ItZTT K a b) [z, u, o, i1, i2] z
      (fun i h => IsZip h z u o .none ∧ IsTupOf2 h u (.ref i1) (.ref i2) ∧ (∃ x y, IsTupOf2 h o x y) ∧ h.IsTupleIter i1 a i ∧ h.IsTupleIter i2 b i) where
  mem := List.mem_cons_self ..
  obj := fun i h st c hc => by
    obtain ⟨q1, q2, ⟨x, y, q3⟩, ⟨o1, e1, _, d1⟩, ⟨o2, e2, _, d2⟩⟩ := st
    simp only [List.mem_cons, List.not_mem_nil, or_false] at hc
    rcases hc with rfl | rfl | rfl | rfl | rfl
    · exact ⟨_, q1, fun v r => nomatch r⟩
    · exact ⟨_, q2, fun v r => nomatch r⟩
    · exact ⟨_, q3, fun v r => nomatch r⟩
    · exact ⟨o1, e1, fun v r => by rw [d1] at r; cases r⟩
    · exact ⟨o2, e2, fun v r => by rw [d2] at r; cases r⟩
  keep := fun i h h' st k => by
    obtain ⟨q1, q2, ⟨x, y, q3⟩, q4, q5⟩ := st
    exact ⟨k z (by simp) _ q1, k u (by simp) _ q2, ⟨x, y, k o (by simp) _ q3⟩, q4.at fun o r => k i1 (by simp) o r, q5.at fun o r => k i2 (by simp) o r⟩
  item := by
    intro X hP hw hK hc i pins s σ H E I hf st go
    subst hP hw hK
    obtain ⟨q1, q2, ⟨x0, y0, q3⟩, q4, q5⟩ := st
    obtain ⟨xs, ys, x, y, sx, sy, gx, gy⟩ := go
    obtain ⟨its, rv, p, _⟩ := I.tuple sx
    obtain ⟨its2, rv2, p2, _⟩ := I.tuple sy
    obtain ⟨v, hv, r1⟩ := rv.get gx
    obtain ⟨v2, hv2, r2⟩ := rv2.get gy
    have lz : z < s.heap.objs.size := Heap.lt_size q1
    have hd := I.ok.hd hc
    have l1 : i < its.toArray.size := by have := (List.getElem?_eq_some_iff.mp hv).1; simpa using this
    have l2 : i < its2.toArray.size := by have := (List.getElem?_eq_some_iff.mp hv2).1; simpa using this
    refine wpAny_pyNext_zipD2_item S (Draws.tuple (A := X.A.in1) hd i1 a ha its.toArray) (Draws.tuple (A := X.A.in1) hd i2 b hb its2.toArray) q1 q2 q3 ⟨q4, p⟩ ⟨q5, p2⟩ l1 l2 fun w1 w2 h' tk g1 g2 z' o' t1 t2 tp sz kp => ?_
    have w1e : w1 = v := by
      have : its.toArray[i]? = some w1 := g1
      simp only [List.getElem?_toArray] at this
      rw [hv] at this
      exact (Option.some.inj this).symm
    have w2e : w2 = v2 := by
      have : its2.toArray[i]? = some w2 := g2
      simp only [List.getElem?_toArray] at this
      rw [hv2] at this
      exact (Option.some.inj this).symm
    subst w1e
    subst w2e
    refine ⟨_, rfl, wpAny_letOwnedTupleGo_zip (s := { s with heap := h', toks := tk }) z' fun h9 z9 sb => ?_⟩
    have tp9 : h9.get? s.heap.objs.size = some { cls := .type "tuple", data := .seq #[w1, w2] } := (sb.2 _ (Nat.ne_of_gt lz)).trans tp
    have new : ObjOk X.prog X.w (upd H s.heap.objs.size (.frz (tupO [w1, w2]) (.tup [x, y]))) h9 s.heap.objs.size (.frz (tupO [w1, w2]) (.tup [x, y])) :=
      ⟨tp9, by show 2 ≤ sizeLine; decide, [w1, w2], .cons r1 (.cons r2 .nil), ⟨_, tp9, rfl, _, rfl⟩⟩
    have I9 : Inv X pins σ (upd H s.heap.objs.size (.frz (tupO [w1, w2]) (.tup [x, y]))) { s with heap := h9, toks := tk } :=
      I.turnedNew (t' := tk) (ch := [z, u, o, i1, i2]) (fun c ob nb q => (sb.2 c (fun r => nb (by simp [r]))).trans (kp c ob (fun r => nb (by simp [r])) (fun r => nb (by simp [r])) (fun r => nb (by simp [r])) (fun r => nb (by simp [r])) q)) hf (Nat.le_refl _) new
    have n1 : i1 ≠ z := fun e => S.zf1 (by rw [← e]; simp)
    have n2 : i2 ≠ z := fun e => S.zf2 (by rw [← e]; simp)
    refine ⟨.ref s.heap.objs.size, _, I9, rfl, ⟨_, tupO [w1, w2], x, y, rfl, I.hok.fresh (Nat.le_refl _), rfl, rfl, fun l hl => by rw [I.tuple_inj hl sx]; exact gx, fun l hl => by rw [I.tuple_inj hl sy]; exact gy⟩, ⟨z9, ?_, ⟨w1, w2, ?_⟩, ?_, ?_⟩, fun c hcm => ?_⟩
    · exact (sb.2 _ S.TIz).trans (kp _ _ S.TIz S.TITO S.TIi1 S.TIi2 q2)
    · exact (sb.2 _ S.TOz).trans o'
    · exact t1.1.at fun o r => (sb.2 _ n1).trans r
    · exact t2.1.at fun o r => (sb.2 _ n2).trans r
    · have lt : c < s.heap.objs.size := by
        simp only [List.mem_cons, List.not_mem_nil, or_false] at hcm
        rcases hcm with rfl | rfl | rfl | rfl | rfl
        · exact lz
        · exact Heap.lt_size q2
        · exact Heap.lt_size q3
        · obtain ⟨_, e1, _⟩ := q4; exact Heap.lt_size e1
        · obtain ⟨_, e1, _⟩ := q5; exact Heap.lt_size e1
      rw [upd_ne (Nat.ne_of_lt lt)]
      exact (hf c hcm).1
  done := by
    intro X hP hw hK hc i pins s σ H E I hf st go
    subst hP hw hK
    obtain ⟨q1, q2, ⟨x0, y0, q3⟩, q4, q5⟩ := st
    obtain ⟨xs, ys, sx, sy, fin⟩ := go
    obtain ⟨its, rv, p, _⟩ := I.tuple sx
    obtain ⟨its2, rv2, p2, _⟩ := I.tuple sy
    have hd := I.ok.hd hc
    have l1 := rv.length
    have l2 := rv2.length
    refine wpAny_pyNext_zipD2_end (i := 0) S (drawsT (A := X.A.in1) hd i1 a ha its.toArray i) (drawsT (A := X.A.in1) hd i2 b hb its2.toArray i) q1 q2 q3 ⟨q4, p⟩ ⟨q5, p2⟩ (Nat.zero_le _) (Nat.zero_le _)
      (fin.imp (fun e => by simp; omega) (fun e => by simp; omega)) fun h' tk kp => ⟨rfl, ?_⟩
    exact I.turnedL (t' := tk) (ch := [z, u, o, i1, i2]) (fun c ob nb q => kp c ob (fun r => nb (by simp [r])) (fun r => nb (by simp [r])) (fun r => nb (by simp [r])) (fun r => nb (by simp [r])) q) hf
  self := fun A i s Q E st h => wpAny_pyIter_zip st.1 h
section
variable {X : Cx} {e e2 : Expr} {ta : TA} {p pos tpos : Pos} {elts : List Expr} {kk : Nat}
def iZipTT (K : PySem.W.Frag) (ta : TA) : TI := fun σ H R => ta σ H fun vs H1 => ∃ a b xs ys, vs = [.ref a, .ref b] ∧ SqT K H1 a xs ∧ SqT K H1 b ys ∧ R (ItZTT K a b) H1
theorem pi_zipTT (hg : Gl X "zip") (hm : X.mg "zip" = none) (ha : PA X [e, e2] ta) (hs : starEach [e, e2] X.env = (false, eval e X.env) :: starEach [e2] X.env := by rfl) (hpl : (backTo pos (starEach [e2] X.env)).any (·.1) = false := by rfl) :
    PI X (.Tuple elts kk tpos) (.Call (.Name "zip" p) [e, e2] [] pos) (iZipTT X.K ta) := by
  refine ⟨fun pins s σ H R I h => ?_⟩
  have args := ha.run pos pins s σ H _ I h
  refine Call_ (ld_blt I hg hm PyProof.Rows.boot_zip (PyProof.Rows.callWith_type1 (thn args fun us s1 got => ?_) hs hpl))
  obtain ⟨vs, H1, I1, r1, a, b, xs, ys, ex, sx, sy, q⟩ := got
  subst ex
  match us, r1 with
  | [_, _], .cons r (.cons r' .nil) =>
    cases r
    cases r'
    obtain ⟨its, rv, p1, _⟩ := I1.tuple sx
    obtain ⟨its2, rv2, p2, _⟩ := I1.tuple sy
    have la := p1.lt
    have lb := p2.lt
    have five : ∀ c, c ∈ [s1.heap.objs.size + 4, s1.heap.objs.size + 2, s1.heap.objs.size + 3, s1.heap.objs.size, s1.heap.objs.size + 1] → FpOk X pins H1 c := fun c hc => by
      have ge : s1.heap.objs.size ≤ c := by
        simp only [List.mem_cons, List.not_mem_nil, or_false] at hc
        rcases hc with h | h | h | h | h <;> rw [h] <;> omega
      exact I1.fpOk ge (I1.hok.fresh ge)
    have S : ZipSep2 (s1.heap.objs.size + 4) (s1.heap.objs.size + 2) (s1.heap.objs.size + 3) s1.heap.objs.size (s1.heap.objs.size + 1) [s1.heap.objs.size, a] [s1.heap.objs.size + 1, b] :=
      zip_sep2 (fun c hc => by simp at hc; rw [hc]; exact la) (fun c hc => by simp at hc; rw [hc]; exact lb)
    refine zip_begins2 (begins_tuple a its.toArray) (begins_tuple b its2.toArray) p1 p2 fun h' z1 z2 z3 z4 z5 _ hk => wpAny_pyIter_zip z1 ?_
    have I2 : Inv X pins σ H1 { s1 with heap := h' } := I1.kept (t' := s1.toks) hk
    exact ⟨s1.heap.objs.size + 4, _, _, _, H1, rfl, I2, turnZTT S (Nat.ne_of_lt la) (Nat.ne_of_lt (Nat.lt_of_lt_of_le lb (Nat.le_add_right _ _))), ⟨z1, z2, ⟨_, _, z3⟩, ⟨_, z4, rfl, rfl⟩, ⟨_, z5, rfl, rfl⟩⟩, five, q⟩
end
/-! ### enumerate of a tuple -/
def ItN (K : PySem.W.Frag) (a : Addr) : It where
  go := fun i H => ∃ (xs : List V) (x : V), SqT K H a xs ∧ xs[i]? = some x
  yld := fun i H v H' => ∃ (p : Addr) (o : Obj) (x : V), v = .ref p ∧ H p = none ∧ o.dict = none ∧ H' = upd H p (.frz o (.tup [.int (i : Nat), x])) ∧ ∀ xs, SqT K H a xs → xs[i]? = some x
  stop := fun i H => ∃ xs : List V, SqT K H a xs ∧ xs.length ≤ i
theorem turnN {P : Program} {w : World} {K : PySem.W.Frag} {elts : List Expr} {kk : Nat} {tpos : Pos} {a e it : Addr} (ha : a ≠ it) (hea : e ≠ a) :
    Turn P w K (.Tuple elts kk tpos) (ItN K a) [e, it] e (fun i h => (∃ old, IsEnum h e it ((i : Nat) : Int) old) ∧ h.IsTupleIter it a i ∧ e ≠ it) where
  mem := List.mem_cons_self ..
  obj := fun i h st b hb => by
    obtain ⟨⟨old, q1⟩, ⟨o, q2, q3, q4⟩, _⟩ := st
    simp only [List.mem_cons, List.not_mem_nil, or_false] at hb
    rcases hb with rfl | rfl
    · exact ⟨_, q1, fun v r => nomatch r⟩
    · exact ⟨o, q2, fun v r => by rw [q4] at r; cases r⟩
  keep := fun i h h' st k => let ⟨⟨old, q1⟩, q2, q3⟩ := st; ⟨⟨old, k e (by simp) _ q1⟩, q2.at fun o r => k it (by simp) o r, q3⟩
  item := by
    intro X hP hw hK hc i pins s σ H E I hf st go
    subst hP hw hK
    obtain ⟨⟨old, q1⟩, q2, q3⟩ := st
    obtain ⟨xs, x, sx, gx⟩ := go
    obtain ⟨its, rv, p, _⟩ := I.tuple sx
    obtain ⟨v, hv, r1⟩ := rv.get gx
    have le : e < s.heap.objs.size := Heap.lt_size q1
    have li : it < s.heap.objs.size := by obtain ⟨_, q, _⟩ := q2; exact Heap.lt_size q
    have l1 : i < its.toArray.size := by have := (List.getElem?_eq_some_iff.mp hv).1; simpa using this
    refine wpAny_pyNext_enum_itemD (Draws.tuple (A := X.A.in1) (I.ok.hd hc) it a ha its.toArray) q1 ⟨q2, p⟩ l1 q3 (by simp [q3, hea]) fun w1 h' tk g1 out t1 tp sz kp => ?_
    have w1e : w1 = v := by
      have : its.toArray[i]? = some w1 := g1
      simp only [List.getElem?_toArray] at this
      rw [hv] at this
      exact (Option.some.inj this).symm
    subst w1e
    refine ⟨_, rfl, wpAny_letOwnedTupleGo_enum (s := { s with heap := h', toks := tk + 1 }) out fun h9 e9 sb => ?_⟩
    have tp9 : h9.get? s.heap.objs.size = some { cls := .type "tuple", data := .seq #[.int i tk, w1] } := (sb.2 _ (Nat.ne_of_gt le)).trans tp
    have new : ObjOk X.prog X.w (upd H s.heap.objs.size (.frz (tupO [.int i tk, w1]) (.tup [.int (i : Nat), x]))) h9 s.heap.objs.size (.frz (tupO [.int i tk, w1]) (.tup [.int (i : Nat), x])) :=
      ⟨tp9, by show 2 ≤ sizeLine; decide, [.int i tk, w1], .cons ⟨_, rfl⟩ (.cons r1 .nil), ⟨_, tp9, rfl, _, rfl⟩⟩
    have I9 : Inv X pins σ (upd H s.heap.objs.size (.frz (tupO [.int i tk, w1]) (.tup [.int (i : Nat), x]))) { s with heap := h9, toks := tk + 1 } :=
      I.turnedNew (ch := [e, it]) (fun b ob nb q => (sb.2 b (fun r => nb (by simp [r]))).trans (kp b ob (fun r => nb (by simp [r])) (fun r => nb (by simp [r])) q)) hf (Nat.le_refl _) new
    refine ⟨.ref s.heap.objs.size, _, I9, rfl, ⟨_, tupO [.int i tk, w1], x, rfl, I.hok.fresh (Nat.le_refl _), rfl, rfl, fun ys hy => by rw [I.tuple_inj hy sx]; exact gx⟩, ⟨⟨w1, ?_⟩, t1.1.at fun o r => (sb.2 it (Ne.symm q3)).trans r, q3⟩, fun b hb => ?_⟩
    · rw [show ((i + 1 : Nat) : Int) = (i : Int) + 1 by omega]
      exact e9
    · have lt : b < s.heap.objs.size := by
        simp only [List.mem_cons, List.not_mem_nil, or_false] at hb
        rcases hb with rfl | rfl
        · exact le
        · exact li
      rw [upd_ne (Nat.ne_of_lt lt)]
      exact (hf b hb).1
  done := by
    intro X hP hw hK hc i pins s σ H E I hf st go
    subst hP hw hK
    obtain ⟨⟨old, q1⟩, q2, q3⟩ := st
    obtain ⟨xs, sx, le⟩ := go
    obtain ⟨its, rv, p, _⟩ := I.tuple sx
    have l1 := rv.length
    have z : its.toArray.size - i = 0 := by simp; omega
    obtain ⟨f0, f1, f2, f3, f4, f5⟩ := hf it (by simp)
    refine wpAny_pyNext_enum_endD (drawsT (A := X.A.in1) (I.ok.hd hc) it a ha its.toArray i) q1 (by rw [z]; exact ⟨q2, p⟩) fun h' eb => ⟨rfl, I.turned (t' := s.toks) (fun b o hb q => eb b o hb q) f0 f1 f3 f4 f5⟩
  self := fun A i s Q E st h => let ⟨⟨_, q1⟩, _⟩ := st; wpAny_pyIter_enum q1 h
theorem meets_enumT (t : Addr) (items : Array Value) :
    Meets (Builtin.«enumerate.__new__» ⟨[.type "enumerate", .ref t], []⟩) (fun _ R s => s.heap.IsTuple t items ∧
      R (.ok (.ret (.ref (s.heap.push { cls := .type "tuple_iterator", data := .fields #[.ref t, .int 0 0] }).objs.size)))
        { s with heap := (s.heap.push { cls := .type "tuple_iterator", data := .fields #[.ref t, .int 0 0] }).push { cls := .type "enumerate", data := .fields #[.none, .bool false, .ref s.heap.objs.size, rawInt 0, .none, .none] } }) :=
  .of_wp fun prog w A R s h => by
    obtain ⟨hp, g, d, tk, os⟩ := s
    obtain ⟨ht, h⟩ := h
    have hsub := sub_enumerate
    have hT : Heap.IsTuple (Shared.heap ⟨hp, g, d, tk, os⟩) t items := ht
    obtain ⟨ob, hob, hcl, nn, hda⟩ := id ht
    wp_walk using AutoSeq1.wpAny_loadPart' hob
    refine wpAny_stack_any fun calls => wpAny_pure ?_
    split
    · rename_i c _ _ _ _ _
      cases (c == Value.type "enumerate") <;>
        (wp_walk using AutoSeq1.wpAny_loadPart' hob, wpAny_pyIter_tuple hT
         exact ⟨_, rfl, h⟩)
    · wp_walk using AutoSeq1.wpAny_loadPart' hob, wpAny_pyIter_tuple hT
      exact ⟨_, rfl, h⟩
theorem call_enumT {prog : Program} {w : World} {A : Around} {E : Value → Shared → Prop} {s : Shared} {t : Addr} {items : Array Value} {Q : Value → Shared → Prop} (ht : s.heap.IsTuple t items)
    (h : ∀ h', IsEnum h' (s.heap.objs.size + 1) s.heap.objs.size 0 .none → h'.IsTupleIter s.heap.objs.size t 0 → (∀ b o, s.heap.get? b = some o → h'.get? b = some o) → Q (.ref (s.heap.objs.size + 1)) { s with heap := h' }) :
    wpAny (model prog w) A (call (.type "enumerate") [.ref t]) Q E s := by
  refine callType_new F.called_enumerate (by decide) (F.typeCall_enumerate_1 _) (F.newCall_enumerate_1 _)
    (fun obj => F.args_object_init_2 obj _) F.entry_enumerate_new (meets_enumT t items) ⟨ht, ?_⟩
  have sz : (s.heap.push { cls := .type "tuple_iterator", data := .fields #[.ref t, .int 0 0] }).objs.size = s.heap.objs.size + 1 := Heap.size_push ..
  have en : IsEnum ((s.heap.push { cls := .type "tuple_iterator", data := .fields #[.ref t, .int 0 0] }).push { cls := .type "enumerate", data := .fields #[.none, .bool false, .ref s.heap.objs.size, rawInt 0, .none, .none] }) (s.heap.objs.size + 1) s.heap.objs.size 0 .none := by
    rw [← sz]
    exact Heap.get?_push_size _ rfl
  show _ ∧ _
  rw [sz]
  exact ⟨⟨_, en, rfl⟩, h _ en ⟨_, Heap.get?_push_of_some _ (Heap.get?_push_size _ rfl), rfl, rfl⟩ fun b o x => Heap.get?_push_of_some _ (Heap.get?_push_of_some _ x)⟩
section
variable {X : Cx} {e : Expr} {ta : TA} {p pos tpos : Pos} {elts : List Expr} {kk : Nat}
def iEnumT (K : PySem.W.Frag) (ta : TA) : TI := fun σ H R => ta σ H fun vs H1 => ∃ a xs, vs = [.ref a] ∧ SqT K H1 a xs ∧ R (ItN K a) H1
theorem pi_enumT (hg : Gl X "enumerate") (hm : X.mg "enumerate" = none) (ha : PA X [e] ta) (hs : starEach [e] X.env = [(false, eval e X.env)] := by rfl) :
    PI X (.Tuple elts kk tpos) (.Call (.Name "enumerate" p) [e] [] pos) (iEnumT X.K ta) := by
  refine ⟨fun pins s σ H R I h => ?_⟩
  have args := ha.run pos pins s σ H _ I h
  refine Call_ (ld_blt I hg hm boot_enumerate (PyProof.Rows.callWith_type1 (thn args fun us s1 got => ?_) hs rfl))
  obtain ⟨vs, H1, I1, r1, a, xs, ex, sx, q⟩ := got
  subst ex
  match us, r1 with
  | [_], .cons r .nil =>
    cases r
    obtain ⟨its, rv, p1, _⟩ := I1.tuple sx
    obtain ⟨ob, eb, _⟩ := id (show s1.heap.IsTuple a its.toArray from p1)
    have lb : a < s1.heap.objs.size := Heap.lt_size eb
    refine call_enumT (show s1.heap.IsTuple a its.toArray from p1) fun h' z1 z2 hk => wpAny_pyIter_enum z1 ?_
    have I2 : Inv X pins σ H1 { s1 with heap := h' } := I1.kept (t' := s1.toks) hk
    refine ⟨s1.heap.objs.size + 1, [s1.heap.objs.size + 1, s1.heap.objs.size], _, _, H1, rfl, I2, turnN (it := s1.heap.objs.size) (Nat.ne_of_lt lb) (Nat.ne_of_gt (Nat.lt_of_lt_of_le lb (Nat.le_add_right _ _))), ⟨⟨.none, z1⟩, z2, Nat.succ_ne_self _⟩, fun c hc => ?_, q⟩
    have ge : s1.heap.objs.size ≤ c := by
      simp only [List.mem_cons, List.not_mem_nil, or_false] at hc
      rcases hc with h | h <;> rw [h] <;> omega
    exact I1.fpOk ge (I1.hok.fresh ge)
end
/-! ### enumerate of a tuple -/
def ItNL (K : PySem.W.Frag) (a : Addr) : It where
  go := fun i H => ∃ (xs : List V) (x : V), SqL K H a xs ∧ xs[i]? = some x
  yld := fun i H v H' => ∃ (p : Addr) (o : Obj) (x : V), v = .ref p ∧ H p = none ∧ o.dict = none ∧ H' = upd H p (.frz o (.tup [.int (i : Nat), x])) ∧ ∀ xs, SqL K H a xs → xs[i]? = some x
  stop := fun i H => ∃ xs : List V, SqL K H a xs ∧ xs.length ≤ i
theorem turnNL {P : Program} {w : World} {K : PySem.W.Frag} {elts : List Expr} {kk : Nat} {tpos : Pos} {a e it : Addr} (ha : a ≠ it) (hea : e ≠ a) :
    Turn P w K (.Tuple elts kk tpos) (ItNL K a) [e, it] e (fun i h => (∃ old, IsEnum h e it ((i : Nat) : Int) old) ∧ h.IsListIter it a i ∧ e ≠ it) where
  mem := List.mem_cons_self ..
  obj := fun i h st b hb => by
    obtain ⟨⟨old, q1⟩, ⟨o, q2, q3, q4⟩, _⟩ := st
    simp only [List.mem_cons, List.not_mem_nil, or_false] at hb
    rcases hb with rfl | rfl
    · exact ⟨_, q1, fun v r => nomatch r⟩
    · exact ⟨o, q2, fun v r => by rw [q4] at r; cases r⟩
  keep := fun i h h' st k => let ⟨⟨old, q1⟩, q2, q3⟩ := st; ⟨⟨old, k e (by simp) _ q1⟩, q2.at fun o r => k it (by simp) o r, q3⟩
  item := by
    intro X hP hw hK hc i pins s σ H E I hf st go
    subst hP hw hK
    obtain ⟨⟨old, q1⟩, q2, q3⟩ := st
    obtain ⟨xs, x, sx, gx⟩ := go
    obtain ⟨its, rv, p, _⟩ := I.list sx
    obtain ⟨v, hv, r1⟩ := rv.get gx
    have le : e < s.heap.objs.size := Heap.lt_size q1
    have li : it < s.heap.objs.size := by obtain ⟨_, q, _⟩ := q2; exact Heap.lt_size q
    have l1 : i < its.toArray.size := by have := (List.getElem?_eq_some_iff.mp hv).1; simpa using this
    refine wpAny_pyNext_enum_itemD (Draws.list (A := X.A.in1) (I.ok.hd hc) it a ha its.toArray) q1 ⟨q2, p.isList⟩ l1 q3 (by simp [q3, hea]) fun w1 h' tk g1 out t1 tp sz kp => ?_
    have w1e : w1 = v := by
      have : its.toArray[i]? = some w1 := g1
      simp only [List.getElem?_toArray] at this
      rw [hv] at this
      exact (Option.some.inj this).symm
    subst w1e
    refine ⟨_, rfl, wpAny_letOwnedTupleGo_enum (s := { s with heap := h', toks := tk + 1 }) out fun h9 e9 sb => ?_⟩
    have tp9 : h9.get? s.heap.objs.size = some { cls := .type "tuple", data := .seq #[.int i tk, w1] } := (sb.2 _ (Nat.ne_of_gt le)).trans tp
    have new : ObjOk X.prog X.w (upd H s.heap.objs.size (.frz (tupO [.int i tk, w1]) (.tup [.int (i : Nat), x]))) h9 s.heap.objs.size (.frz (tupO [.int i tk, w1]) (.tup [.int (i : Nat), x])) :=
      ⟨tp9, by show 2 ≤ sizeLine; decide, [.int i tk, w1], .cons ⟨_, rfl⟩ (.cons r1 .nil), ⟨_, tp9, rfl, _, rfl⟩⟩
    have I9 : Inv X pins σ (upd H s.heap.objs.size (.frz (tupO [.int i tk, w1]) (.tup [.int (i : Nat), x]))) { s with heap := h9, toks := tk + 1 } :=
      I.turnedNew (ch := [e, it]) (fun b ob nb q => (sb.2 b (fun r => nb (by simp [r]))).trans (kp b ob (fun r => nb (by simp [r])) (fun r => nb (by simp [r])) q)) hf (Nat.le_refl _) new
    refine ⟨.ref s.heap.objs.size, _, I9, rfl, ⟨_, tupO [.int i tk, w1], x, rfl, I.hok.fresh (Nat.le_refl _), rfl, rfl, fun ys hy => by rw [I.list_inj hy sx]; exact gx⟩, ⟨⟨w1, ?_⟩, t1.1.at fun o r => (sb.2 it (Ne.symm q3)).trans r, q3⟩, fun b hb => ?_⟩
    · rw [show ((i + 1 : Nat) : Int) = (i : Int) + 1 by omega]
      exact e9
    · have lt : b < s.heap.objs.size := by
        simp only [List.mem_cons, List.not_mem_nil, or_false] at hb
        rcases hb with rfl | rfl
        · exact le
        · exact li
      rw [upd_ne (Nat.ne_of_lt lt)]
      exact (hf b hb).1
  done := by
    intro X hP hw hK hc i pins s σ H E I hf st go
    subst hP hw hK
    obtain ⟨⟨old, q1⟩, q2, q3⟩ := st
    obtain ⟨xs, sx, le⟩ := go
    obtain ⟨its, rv, p, _⟩ := I.list sx
    have l1 := rv.length
    have z : its.toArray.size - i = 0 := by simp; omega
    obtain ⟨f0, f1, f2, f3, f4, f5⟩ := hf it (by simp)
    refine wpAny_pyNext_enum_endD (drawsL (A := X.A.in1) (I.ok.hd hc) it a ha its.toArray i) q1 (by rw [z]; exact ⟨q2, p.isList⟩) fun h' eb => ⟨rfl, I.turned (t' := s.toks) (fun b o hb q => eb b o hb q) f0 f1 f3 f4 f5⟩
  self := fun A i s Q E st h => let ⟨⟨_, q1⟩, _⟩ := st; wpAny_pyIter_enum q1 h
section
variable {X : Cx} {e : Expr} {ta : TA} {p pos tpos : Pos} {elts : List Expr} {kk : Nat}
def iEnumL (K : PySem.W.Frag) (ta : TA) : TI := fun σ H R => ta σ H fun vs H1 => ∃ a xs, vs = [.ref a] ∧ SqL K H1 a xs ∧ R (ItNL K a) H1
theorem pi_enumL (hg : Gl X "enumerate") (hm : X.mg "enumerate" = none) (ha : PA X [e] ta) (hs : starEach [e] X.env = [(false, eval e X.env)] := by rfl) :
    PI X (.Tuple elts kk tpos) (.Call (.Name "enumerate" p) [e] [] pos) (iEnumL X.K ta) := by
  refine ⟨fun pins s σ H R I h => ?_⟩
  have args := ha.run pos pins s σ H _ I h
  refine Call_ (ld_blt I hg hm boot_enumerate (PyProof.Rows.callWith_type1 (thn args fun us s1 got => ?_) hs rfl))
  obtain ⟨vs, H1, I1, r1, a, xs, ex, sx, q⟩ := got
  subst ex
  match us, r1 with
  | [_], .cons r .nil =>
    cases r
    obtain ⟨its, rv, p1, _⟩ := I1.list sx
    have lb : a < s1.heap.objs.size := p1.lt
    refine call_enumerate_list p1.isList fun h' z1 z2 _ hk => wpAny_pyIter_enum z1 ?_
    have I2 : Inv X pins σ H1 { s1 with heap := h' } := I1.kept (t' := s1.toks) hk
    refine ⟨s1.heap.objs.size + 1, [s1.heap.objs.size + 1, s1.heap.objs.size], _, _, H1, rfl, I2, turnNL (it := s1.heap.objs.size) (Nat.ne_of_lt lb) (Nat.ne_of_gt (Nat.lt_of_lt_of_le lb (Nat.le_add_right _ _))), ⟨⟨.none, z1⟩, z2, Nat.succ_ne_self _⟩, fun c hc => ?_, q⟩
    have ge : s1.heap.objs.size ≤ c := by
      simp only [List.mem_cons, List.not_mem_nil, or_false] at hc
      rcases hc with h | h <;> rw [h] <;> omega
    exact I1.fpOk ge (I1.hok.fresh ge)
end
end WR
namespace WR
open PySem PySem.Spec PyProof.Rows L2

/-! ### statements -/
inductive Fl where
  | nx (σ : Ev) | rt (t : T) | bk (σ : Ev) | ct (σ : Ev)
inductive RsS where
  | ok (f : Fl) (st : List O)
  | exc (e : Ex) (σ : Ev) (st : List O)
  | no
abbrev MS := Ev → List O → RsS
def Rs.bindS {α : Type} (r : Rs α) (σ : Ev) (k : α → List O → RsS) : RsS := match r with
  | .ok a st => k a st
  | .exc e st => .exc e σ st
  | .no => .no
def RsS.seq (r : RsS) (k : MS) : RsS := match r with
  | .ok (.nx σ) st => k σ st
  | r => r
def RanS (Γ : Gam) (F : List Addr) (r : RsS) (ρ : List Addr) (st : List O) (H : Hp) (W : WX) (D : Ends) : Prop := match r with
  | .ok (.nx σp') st' => ∀ σ' H' ρ', Post Γ F ρ H ρ' st' H' → RE Γ F ρ' H' σp' σ' → D.nx σ' H'
  | .ok (.bk σp') st' => ∀ σ' H' ρ', Post Γ F ρ H ρ' st' H' → RE Γ F ρ' H' σp' σ' → D.bk σ' H'
  | .ok (.ct σp') st' => ∀ σ' H' ρ', Post Γ F ρ H ρ' st' H' → RE Γ F ρ' H' σp' σ' → D.ct σ' H'
  | .ok (.rt t) st' => ∀ v H' ρ', Post Γ F ρ H ρ' st' H' → RV Γ F ρ' H' t v → D.rt v H'
  | .exc e σp' st' => ∀ cls d σ' H' ρ', Post Γ F ρ H ρ' st' H' → RX Γ F ρ' H' e cls d → RE Γ F ρ' H' σp' σ' → W cls d σ' H'
  | .no => False
section
variable {Γ : Gam} {F ρ ρ' : List Addr} {H H' : Hp} {st st' : List O} {W : WX} {D D' : Ends} {σp : Ev} {σ : L2.St}
theorem RanS.shift {r : RsS} (s : SR Γ F ρ H st) (p : Post Γ F ρ H ρ' st' H') (h : RanS Γ F r ρ st H W D) : RanS Γ F r ρ' st' H' W D := by
  cases r with
  | ok f st2 =>
    cases f with
    | nx σ2 => exact fun σ' H2 ρ2 p2 re => h σ' H2 ρ2 (p.trans s.rs p2) re
    | bk σ2 => exact fun σ' H2 ρ2 p2 re => h σ' H2 ρ2 (p.trans s.rs p2) re
    | ct σ2 => exact fun σ' H2 ρ2 p2 re => h σ' H2 ρ2 (p.trans s.rs p2) re
    | rt t => exact fun v H2 ρ2 p2 rv => h v H2 ρ2 (p.trans s.rs p2) rv
  | exc e σ2 st2 => exact fun cls d σ' H2 ρ2 p2 rx re => h cls d σ' H2 ρ2 (p.trans s.rs p2) rx re
  | no => exact h
theorem RanS.lift {α β : Type} {Rl : List Addr → List O → Hp → α → β → Prop} {r : Rs α} {k : α → List O → RsS} {Q : β → Hp → Prop} (s : SR Γ F ρ H st) (re : RE Γ F ρ H σp σ) (h : RanS Γ F (r.bindS σp k) ρ st H W D)
    (hk : ∀ t st1 v H1 ρ1, SR Γ F ρ1 H1 st1 → Post Γ F ρ H ρ1 st1 H1 → RE Γ F ρ1 H1 σp σ → Rl ρ1 st1 H1 t v → RanS Γ F (k t st1) ρ1 st1 H1 W D → Q v H1) : Ran Γ F Rl r ρ st H (fun cls d H' => W cls d σ H') Q := by
  cases r with
  | ok t st1 => exact fun v H1 ρ1 p rv => hk t st1 v H1 ρ1 (s.post p) p (re.post s p) rv (RanS.shift s p h)
  | exc e st1 => exact fun cls d H1 ρ1 p rx => h cls d σ H1 ρ1 p rx (re.post s p)
  | no => exact h
end
def tSv (Γ : Gam) (m : MS) (W : WX) : TS := fun D σ H => ∃ (σp : Ev) (F ρ : List Addr) (st : List O), SR Γ F ρ H st ∧ RE Γ F ρ H σp σ ∧ RanS Γ F (m σp st) ρ st H W D
def SS (Γ : Gam) (X : Cx) (W : WX) (e : Stmt) (m : MS) : Prop := PS X e (tSv Γ m W)
def SSs (Γ : Gam) (X : Cx) (W : WX) (e : List Stmt) (m : MS) : Prop := PSs X e (tSv Γ m W)
theorem _root_.L2.PS.imp {X : Cx} {e : Stmt} {t t' : TS} (h : PS X e t) (i : ∀ D σ H, t' D σ H → t D σ H) : PS X e t' := ⟨fun pins s σ H D I q => h.run pins s σ H D I (i D σ H q)⟩
theorem _root_.L2.PSs.imp {X : Cx} {e : List Stmt} {t t' : TS} (h : PSs X e t) (i : ∀ D σ H, t' D σ H → t D σ H) : PSs X e t' := ⟨fun pins s σ H D I q => h.run pins s σ H D I (i D σ H q)⟩
def mNext : MS := fun σ st => .ok (.nx σ) st
def mSeq (a b : MS) : MS := fun σ st => (a σ st).seq b
section
variable {Γ : Gam} {X : Cx} {W : WX} {st0 : Stmt} {rest : List Stmt} {a b : MS} {pos : Pos}
theorem sSs_nil : SSs Γ X W [] mNext := pss_nil.imp fun D σ H ⟨σp, F, ρ, st, s, re, h⟩ => h σ H ρ (.refl s.rs) re
theorem sSs_one (h : SS Γ X W st0 a) : SSs Γ X W [st0] a := pss_one h
theorem sSs_cons (h : SS Γ X W st0 a) (h2 : SSs Γ X W rest b) : SSs Γ X W (st0 :: rest) (mSeq a b) :=
  (pss_cons h h2).imp fun D σ H ⟨σp, F, ρ, st, s, re, h⟩ => ⟨σp, F, ρ, st, s, re, by
    unfold mSeq at h
    cases q : a σp st with
    | ok f st2 =>
      rw [q] at h
      cases f with
      | nx σ2 => exact fun σ' H2 ρ2 p2 re2 => ⟨σ2, F, ρ2, st2, s.post p2, re2, RanS.shift s p2 h⟩
      | bk σ2 => exact h
      | ct σ2 => exact h
      | rt t => exact h
    | exc e σ2 st2 => rw [q] at h; exact h
    | no => rw [q] at h; exact h⟩
/-- a docstring -/
theorem sS_doc {x : Str} {j p2} : SS Γ X W (.Expr (.Constant (.str x) j p2) pos) mNext := ps_doc.imp fun D σ H ⟨σp, F, ρ, st, s, re, h⟩ => h σ H ρ (.refl s.rs) re
theorem sS_pass : SS Γ X W (.Pass pos) mNext := ps_pass.imp fun D σ H ⟨σp, F, ρ, st, s, re, h⟩ => h σ H ρ (.refl s.rs) re
def mBreak : MS := fun σ st => .ok (.bk σ) st
def mCont : MS := fun σ st => .ok (.ct σ) st
theorem sS_break : SS Γ X W (.Break pos) mBreak := ps_break.imp fun D σ H ⟨σp, F, ρ, st, s, re, h⟩ => h σ H ρ (.refl s.rs) re
theorem sS_cont : SS Γ X W (.Continue pos) mCont := ps_continue.imp fun D σ H ⟨σp, F, ρ, st, s, re, h⟩ => h σ H ρ (.refl s.rs) re
def mExpr (a : ME) : MS := fun σ st => (a σ st).bindS σ fun _ st1 => .ok (.nx σ) st1
theorem sS_expr {e : Expr} {a : ME} (h : SE Γ X W e a) (hs : swapsWith e none pos.line X.env = pure false := by rfl) : SS Γ X W (.Expr e pos) (mExpr a) :=
  (ps_expr h hs).imp fun D σ H ⟨σp, F, ρ, st, s, re, h⟩ => ⟨σp, F, ρ, st, s, re, RanS.lift s re h fun t st1 v H1 ρ1 s1 p1 re1 r1 h1 => h1 σ H1 ρ1 (.refl s1.rs) re1⟩
def mRet (a : ME) : MS := fun σ st => (a σ st).bindS σ fun t st1 => .ok (.rt t) st1
theorem sS_ret {e : Expr} {a : ME} (h : SE Γ X W e a) : SS Γ X W (.Return (some e) pos) (mRet a) :=
  (ps_ret h).imp fun D σ H ⟨σp, F, ρ, st, s, re, h⟩ => ⟨σp, F, ρ, st, s, re, RanS.lift s re h fun t st1 v H1 ρ1 s1 p1 re1 r1 h1 => h1 v H1 ρ1 (.refl s1.rs) r1⟩
theorem sS_retN : SS Γ X W (.Return none pos) (mRet (mC .non)) := ps_retN.imp fun D σ H ⟨σp, F, ρ, st, s, re, h⟩ => h .non H ρ (.refl s.rs) rfl
def mIfS (c : M Bool) (a b : MS) : MS := fun σ st => (c σ st).bindS σ fun k st1 => match k with
  | true => a σ st1
  | false => b σ st1
theorem sS_if {c : Expr} {x y : List Stmt} {m : M Bool} (hc : STt Γ X W c m) (ha : SSs Γ X W x a) (hb : SSs Γ X W y b) : SS Γ X W (.If c x y pos) (mIfS m a b) :=
  (ps_if hc ha hb).imp fun D σ H ⟨σp, F, ρ, st, s, re, h⟩ => ⟨σp, F, ρ, st, s, re, RanS.lift s re h fun t st1 v H1 ρ1 s1 p1 re1 r1 h1 => by
    cases r1
    cases t with
    | true => exact iteT ⟨σp, F, ρ1, st1, s1, re1, h1⟩
    | false => exact iteF ⟨σp, F, ρ1, st1, s1, re1, h1⟩⟩
def mSet (i : Nat) (a : ME) : MS := fun σ st => (a σ st).bindS σ fun t st1 => .ok (.nx (σ.set i (some t))) st1
theorem RE.set {F ρ : List Addr} {H : Hp} {σp : Ev} {σ : L2.St} {i : Nat} {t : T} {v : V} (re : RE Γ F ρ H σp σ) (r : RV Γ F ρ H t v) : RE Γ F ρ H (σp.set i (some t)) (σ.set i (some v)) := ⟨by simp [re.len], fun j u e => by
  by_cases hj : i = j
  · subst hj
    have hlt : i < σp.length := by
      have := (List.getElem?_eq_some_iff.mp e).1
      simpa using this
    rw [List.getElem?_set_self hlt] at e
    cases e
    exact ⟨v, by rw [List.getElem?_set_self (by rw [← re.len]; exact hlt)], r⟩
  · rw [List.getElem?_set_ne hj] at e
    obtain ⟨w, e1, e2⟩ := re.at_ j u e
    exact ⟨w, by rw [List.getElem?_set_ne hj]; exact e1, e2⟩⟩
theorem sS_set (i : Nat) {x : Str} {e : Expr} {a : ME} {pos' : Pos} (h : SE Γ X W e a) (hN : X.N.Nodup) (hi : X.N[i]? = some x := by rfl) (hx : Loc X.env.scope x := by first | exact Or.inl rfl | exact Or.inr rfl) (hs : swapsWith e (some (.Name x pos')) pos.line X.env = pure false := by rfl) (hf : X.fn x = true ∨ X.env.scope.names.lookup x = some .local := by first | exact .inl rfl | exact .inr rfl | assumption) : SS Γ X W (.Assign [.Name x pos'] e pos) (mSet i a) :=
  (ps_set hN hi hx h hs hf).imp fun D σ H ⟨σp, F, ρ, st, s, re, h⟩ => ⟨σp, F, ρ, st, s, re, RanS.lift s re h fun t st1 v H1 ρ1 s1 p1 re1 r1 h1 => h1 _ H1 ρ1 (.refl s1.rs) (re1.set r1)⟩
/-- a, b = x, y -/
def mPar (i j : Nat) (a : M (List T)) : MS := fun σ st => (a σ st).bindS σ fun ts st1 => match ts with
  | [t, u] => .ok (.nx ((σ.set i (some t)).set j (some u))) st1
  | _ => .no
theorem sS_par (i j : Nat) {x y : Str} {e d : Expr} {m : M (List T)} {px py pt : Pos} {kt k2 pt2} (ha : SA Γ X W [e, d] m) (hN : X.N.Nodup) (hc : X.calm = true := by rfl) (hi : X.N[i]? = some x := by rfl) (hj : X.N[j]? = some y := by rfl) (hij : i ≠ j := by decide)
    (hx : X.env.scope.names.lookup x = some .local := by rfl) (hy : X.env.scope.names.lookup y = some .local := by rfl)
    (hw : swappedStores [.Tuple [.Name x px, .Name y py] kt pt] (.Tuple [e, d] k2 pt2) X.env = pure (some [x, y]) := by rfl)
    (hs : swapsWithSole [.Tuple [.Name x px, .Name y py] kt pt] (.Tuple [e, d] k2 pt2) pos.line X.env = pure false := by rfl) :
    SS Γ X W (.Assign [.Tuple [.Name x px, .Name y py] kt pt] (.Tuple [e, d] k2 pt2) pos) (mPar i j m) :=
  (ps_par hc hN hi hj hij hx hy ha hw hs).imp fun D σ H ⟨σp, F, ρ, st, s, re, h⟩ => ⟨σp, F, ρ, st, s, re, RanS.lift s re h fun ts st1 vs H1 ρ1 s1 p1 re1 r1 h1 => by
    match ts, r1, h1 with
    | [t, u], r1, h1 =>
      obtain ⟨v, _, rfl, q1, w, _, rfl, q2, rfl⟩ := r1
      exact ⟨v, w, rfl, h1 _ H1 ρ1 (.refl s1.rs) ((re1.set q1).set q2)⟩
    | [], _, h1 => exact h1.elim
    | [_], _, h1 => exact h1.elim
    | _ :: _ :: _ :: _, _, h1 => exact h1.elim⟩
end

/-! ### targets -/
abbrev AG := T → Ev → Option Ev
abbrev AGs := List T → Ev → Option Ev
def tGv (Γ : Gam) (ga : AG) (vs : List Nat) : TG := fun v σ H Q => ∃ (t : T) (σp : Ev) (F ρ : List Addr) (st : List O), SR Γ F ρ H st ∧ RE Γ F ρ H σp σ ∧ RV Γ F ρ H t v ∧ match ga t σp with
  | some σp' => ∀ σ', RE Γ F ρ H σp' σ' → σ'.length = σ.length ∧ (∀ i, i ∉ vs → σ'[i]? = σ[i]?) → Q σ' H
  | none => False
def tGvs (Γ : Gam) (ga : AGs) (vs : List Nat) : TGs := fun us σ H Q => ∃ (ts : List T) (σp : Ev) (F ρ : List Addr) (st : List O), SR Γ F ρ H st ∧ RE Γ F ρ H σp σ ∧ RVs Γ F ρ H ts us ∧ match ga ts σp with
  | some σp' => ∀ σ', RE Γ F ρ H σp' σ' → σ'.length = σ.length ∧ (∀ i, i ∉ vs → σ'[i]? = σ[i]?) → Q σ' H
  | none => False
def SG (Γ : Gam) (X : Cx) (vs : List Nat) (e : Expr) (g : AG) : Prop := PG X e (tGv Γ g vs)
def SGs (Γ : Gam) (X : Cx) (vs : List Nat) (e : List Expr) (g : AGs) : Prop := PGs X e (tGvs Γ g vs)
def agN (i : Nat) : AG := fun t σ => some (σ.set i (some t))
def agNil : AGs := fun ts σ => match ts with
  | [] => some σ
  | _ => none
def agCons (g : AG) (gs : AGs) : AGs := fun ts σ => match ts with
  | [] => none
  | t :: r => match g t σ with
    | some σ1 => gs r σ1
    | none => none
def agT (n : Nat) (gs : AGs) : AG := fun t σ => match t with
  | .tup ts => match Nat.beq ts.length n with
    | true => gs ts σ
    | false => none
  | _ => none
section
variable {Γ : Gam} {X : Cx} {pos : Pos} {e : Expr} {es : List Expr} {vs vs2 : List Nat} {g : AG} {gs : AGs}
theorem PG.imp {t t' : TG} (h : PG X e t) (i : ∀ v σ H Q, t' v σ H Q → t v σ H Q) : PG X e t' := ⟨fun pins s σ H v u Q I r q => h.run pins s σ H v u Q I r (i v σ H Q q)⟩
theorem PGs.imp {t t' : TGs} (h : PGs X es t) (i : ∀ v σ H Q, t' v σ H Q → t v σ H Q) : PGs X es t' := ⟨fun pins s σ H v u Q I r q => h.run pins s σ H v u Q I r (i v σ H Q q)⟩
theorem sG_name (i : Nat) {x : Str} (hN : X.N.Nodup) (hi : X.N[i]? = some x := by rfl) (hx : Loc X.env.scope x := by first | exact Or.inl rfl | exact Or.inr rfl) (hf : X.fn x = true ∨ X.env.scope.names.lookup x = some .local := by first | exact .inl rfl | exact .inr rfl | assumption) : SG Γ X [i] (.Name x pos) (agN i) :=
  PG.imp (pg_name hN hi hx hf) fun v σ H Q ⟨t, σp, F, ρ, st, s, re, r, h⟩ => h _ (re.set r) ⟨by simp, fun j hj => List.getElem?_set_ne (by intro z; exact hj (by simp [z]))⟩
theorem sGs_nil : SGs Γ X [] [] agNil := PGs.imp pgs_nil fun us σ H Q ⟨ts, σp, F, ρ, st, s, re, r, h⟩ => by
  match ts, r, h with
  | [], r, h => exact ⟨r, h σ re ⟨rfl, fun _ _ => rfl⟩⟩
  | _ :: _, _, h => exact h.elim
theorem sGs_cons (h1 : SG Γ X vs e g) (h2 : SGs Γ X vs2 es gs) (hs : (assignEach (e :: es) X.env).map (·.2) = assign e X.env :: (assignEach es X.env).map (·.2) := by rfl) : SGs Γ X (vs ++ vs2) (e :: es) (agCons g gs) :=
  PGs.imp (pgs_cons h1 h2 hs) fun us σ H Q ⟨ts, σp, F, ρ, st, s, re, r, h⟩ => by
    match ts, r, h with
    | [], _, h => exact h.elim
    | t :: ts, r, h =>
      obtain ⟨v, vr, rfl, r1, r2⟩ := r
      refine ⟨v, vr, rfl, t, σp, F, ρ, st, s, re, r1, ?_⟩
      unfold agCons at h
      simp only at h
      cases q : g t σp with
      | none => rw [q] at h; exact h.elim
      | some σ1 =>
        rw [q] at h
        intro σ' re' k
        refine ⟨ts, σ1, F, ρ, st, s, re', r2, ?_⟩
        simp only at h
        cases q2 : gs ts σ1 with
        | none => rw [q2] at h; exact h.elim
        | some σ2 =>
          rw [q2] at h
          exact fun σ'' re'' k2 => h σ'' re'' ⟨k2.1.trans k.1, fun i hi => (k2.2 i fun z => hi (List.mem_append_right _ z)).trans (k.2 i fun z => hi (List.mem_append_left _ z))⟩
theorem sG_tup {k n : Nat} (hK : X.K = Γ.K) (h : SGs Γ X vs es gs) (hc : X.calm = true := by rfl) (hn : (assignEach es X.env).length = n := by rfl) (hst : (assignEach es X.env).findIdx? (·.1) = none := by rfl) : SG Γ X vs (.Tuple es k pos) (agT n gs) :=
  PG.imp (pg_tup hc h hn hst) fun v σ H Q ⟨t, σp, F, ρ, st, s, re, r, h⟩ => by
    cases t with
    | tup ts =>
      obtain ⟨a, us, rfl, r1, r2⟩ := r
      unfold agT at h
      simp only at h
      cases q : Nat.beq ts.length n with
      | false => rw [q] at h; exact h.elim
      | true =>
        rw [q] at h
        exact ⟨a, us, rfl, by rw [hK]; exact tupK_sq r1, by rw [← r2.length]; exact Nat.eq_of_beq_eq_true q, ts, σp, F, ρ, st, s, re, r2, h⟩
    | _ => exact h.elim
/-- target = value -/
def mAsg (g : AG) (a : ME) : MS := fun σ st => (a σ st).bindS σ fun t st1 => match g t σ with
  | some σ1 => .ok (.nx σ1) st1
  | none => .no
theorem sS_asg {W : WX} {tg : Expr} {a : ME} (he : SE Γ X W e a) (hg : SG Γ X vs tg g) (hs : swapsWithSole [tg] e pos.line X.env = pure false := by rfl) (hw : swappedStores [tg] e X.env = pure none := by rfl)
    (h1 : (assignEach [tg] X.env).map (·.2) = [assign tg X.env] := by rfl) : SS Γ X W (.Assign [tg] e pos) (mAsg g a) :=
  (ps_asg he hg hs hw h1).imp fun D σ H ⟨σp, F, ρ, st, s, re, h⟩ => ⟨σp, F, ρ, st, s, re, RanS.lift s re h fun t st1 v H1 ρ1 s1 p1 re1 r1 h1 => ⟨t, σp, F, ρ1, st1, s1, re1, r1, by
    cases q : g t σp with
    | none => rw [q] at h1; exact h1.elim
    | some σ1 => rw [q] at h1; exact fun σ' re' _ => h1 σ' H1 ρ1 (.refl s1.rs) re'⟩⟩
end

/-! ### what is walked -/
inductive Src where
  | lst (xs : List T) | tup (xs : List T) | live (n : Nat) | rng (lo : Int) (k : Nat) | str (x : Str) | scr (ns : List Int)
  | zipT (xs ys : List T) | zipL (xs ys : List T) | enumL (xs : List T)
  | zipM (xs ys : List T) | zipN (xs ys : List T) | enumT (xs : List T)
/-- at turn i: nothing is known, it ends, or an item -/
def srcAt (s : Src) (st : List O) (i : Nat) : Option (Option T) := match s with
  | .lst xs => some xs[i]?
  | .tup xs => some xs[i]?
  | .live n => match st[n]? with
    | some (.lst xs) => some xs[i]?
    | _ => none
  | .rng lo k => match Nat.blt i k with
    | true => some (some (.int (lo + (i : Int))))
    | false => some none
  | .str x => match x.cps[i]? with
    | some c => some (some (.str ⟨#[c]⟩))
    | none => some none
  | .scr ns => match ns[i]? with
    | some n => some (some (.int n))
    | none => some none
  | .zipT xs ys => match xs[i]?, ys[i]? with
    | some x, some y => some (some (.tup [x, y]))
    | _, _ => some none
  | .zipL xs ys => match xs[i]?, ys[i]? with
    | some x, some y => some (some (.tup [x, y]))
    | _, _ => some none
  | .enumL xs => match xs[i]? with
    | some x => some (some (.tup [.int i, x]))
    | none => some none
  | .zipM xs ys => match xs[i]?, ys[i]? with
    | some x, some y => some (some (.tup [x, y]))
    | _, _ => some none
  | .zipN xs ys => match xs[i]?, ys[i]? with
    | some x, some y => some (some (.tup [x, y]))
    | _, _ => some none
  | .enumT xs => match xs[i]? with
    | some x => some (some (.tup [.int i, x]))
    | none => some none
def SrcR (Γ : Gam) (F ρ : List Addr) (H : Hp) : Src → It → Prop
  | .lst xs, J => ∃ a, J = Itl Γ.K a ∧ RV Γ F ρ H (.lst xs) (.ref a)
  | .tup xs, J => ∃ a, J = Itt Γ.K a ∧ RV Γ F ρ H (.tup xs) (.ref a)
  | .live n, J => ∃ a, J = Itl Γ.K a ∧ RV Γ F ρ H (.ref n) (.ref a)
  | .rng lo k, J => J = Itr lo k
  | .str x, J => J = Its x
  | .scr ns, J => ∃ a, J = Itl Γ.K a ∧ RV Γ F ρ H (.scr ns) (.ref a)
  | .zipT xs ys, J => ∃ a b, J = ItZTT Γ.K a b ∧ RV Γ F ρ H (.tup xs) (.ref a) ∧ RV Γ F ρ H (.tup ys) (.ref b)
  | .zipL xs ys, J => ∃ a b, J = ItZLL Γ.K a b ∧ RV Γ F ρ H (.lst xs) (.ref a) ∧ RV Γ F ρ H (.lst ys) (.ref b)
  | .enumL xs, J => ∃ a, J = ItNL Γ.K a ∧ RV Γ F ρ H (.lst xs) (.ref a)
  | .zipM xs ys, J => ∃ a b, J = ItZLT Γ.K a b ∧ RV Γ F ρ H (.lst xs) (.ref a) ∧ RV Γ F ρ H (.tup ys) (.ref b)
  | .zipN xs ys, J => ∃ a b, J = ItZTL Γ.K a b ∧ RV Γ F ρ H (.tup xs) (.ref a) ∧ RV Γ F ρ H (.lst ys) (.ref b)
  | .enumT xs, J => ∃ a, J = ItN Γ.K a ∧ RV Γ F ρ H (.tup xs) (.ref a)
section
variable {Γ : Gam} {F F' ρ ρ' : List Addr} {H H' : Hp} {st st' : List O} {src : Src} {J : It}
theorem SrcR.grow (hF : ∀ a ∈ F', a ∈ F ∨ H a = none) (g : Grow ρ ρ' H) (k : KeepW F ρ H H') (h : SrcR Γ F ρ H src J) : SrcR Γ F' ρ' H' src J := by
  cases src with
  | lst xs => obtain ⟨a, e, r⟩ := h; exact ⟨a, e, RV.grow hF g k _ _ r⟩
  | tup xs => obtain ⟨a, e, r⟩ := h; exact ⟨a, e, RV.grow hF g k _ _ r⟩
  | live n => obtain ⟨a, e, r⟩ := h; exact ⟨a, e, RV.grow hF g k _ _ r⟩
  | rng lo n => exact h
  | str x => exact h
  | scr ns => obtain ⟨a, e, r⟩ := h; exact ⟨a, e, RV.grow hF g k _ _ r⟩
  | zipT xs ys => obtain ⟨a, b, e, r, r'⟩ := h; exact ⟨a, b, e, RV.grow hF g k _ _ r, RV.grow hF g k _ _ r'⟩
  | zipL xs ys => obtain ⟨a, b, e, r, r'⟩ := h; exact ⟨a, b, e, RV.grow hF g k _ _ r, RV.grow hF g k _ _ r'⟩
  | enumL xs => obtain ⟨a, e, r⟩ := h; exact ⟨a, e, RV.grow hF g k _ _ r⟩
  | zipM xs ys => obtain ⟨a, b, e, r, r'⟩ := h; exact ⟨a, b, e, RV.grow hF g k _ _ r, RV.grow hF g k _ _ r'⟩
  | zipN xs ys => obtain ⟨a, b, e, r, r'⟩ := h; exact ⟨a, b, e, RV.grow hF g k _ _ r, RV.grow hF g k _ _ r'⟩
  | enumT xs => obtain ⟨a, e, r⟩ := h; exact ⟨a, e, RV.grow hF g k _ _ r⟩
theorem SrcR.post (s : SR Γ F ρ H st) (p : Post Γ F ρ H ρ' st' H') (h : SrcR Γ F ρ H src J) : SrcR Γ F ρ' H' src J := h.grow (fun _ z => .inl z) p.grow (Keep.w p.keep)
theorem scr_sq {ns : List Int} {a : Addr} (h : RV Γ F ρ H (.scr ns) (.ref a)) : SqL Γ.K H a (ns.map V.int) := by
  obtain ⟨b, e, h⟩ := h
  cases e
  rcases h with ⟨_, _, h⟩ | h
  · exact .inl h
  · exact .inr h
/-- one turn of what is walked -/
theorem SrcR.turn (s : SR Γ F ρ H st) (h : SrcR Γ F ρ H src J) (i : Nat) : (srcAt src st i = some none → J.stop i H) ∧ ∀ t, srcAt src st i = some (some t) → J.go i H ∧ ∀ x H2, J.yld i H x H2 → Same H H2 ∧ RV Γ F ρ H2 t x := by
  have lst : ∀ (a : Addr) (xs : List T) (vs : List V), SqL Γ.K H a vs → RVs Γ F ρ H xs vs → (some xs[i]? = some none → (Itl Γ.K a).stop i H) ∧ ∀ t, some xs[i]? = some (some t) → (Itl Γ.K a).go i H ∧ ∀ x H2, (Itl Γ.K a).yld i H x H2 → Same H H2 ∧ RV Γ F ρ H2 t x := fun a xs vs h1 h2 => by
    refine ⟨fun e => ⟨vs, h1, ?_⟩, fun t e => ?_⟩
    · rw [← h2.length]
      exact List.getElem?_eq_none_iff.mp (Option.some.inj e)
    · obtain ⟨v, e1, r⟩ := h2.get (Option.some.inj e)
      refine ⟨⟨vs, v, h1, e1⟩, fun x H2 y => ?_⟩
      obtain ⟨rfl, y⟩ := y
      have := y vs h1
      rw [e1] at this; cases this
      exact ⟨fun _ _ e => e, r⟩
  cases src with
  | lst xs =>
    obtain ⟨a, rfl, b, vs, e, _, _, h1, h2⟩ := h
    cases e
    exact lst a xs vs (.of h1) h2
  | tup xs =>
    obtain ⟨a, rfl, b, vs, e, h1, h2⟩ := h
    cases e
    have h1 := tupK_sq h1
    refine ⟨fun e => ⟨vs, h1, ?_⟩, fun t e => ?_⟩
    · rw [← h2.length]
      exact List.getElem?_eq_none_iff.mp (Option.some.inj e)
    · obtain ⟨v, e1, r⟩ := h2.get (Option.some.inj e)
      refine ⟨⟨vs, v, h1, e1⟩, fun x H2 y => ?_⟩
      obtain ⟨rfl, y⟩ := y
      have := y vs h1
      rw [e1] at this; cases this
      exact ⟨fun _ _ e => e, r⟩
  | live n =>
    obtain ⟨a, rfl, b, e, h1⟩ := h
    cases e
    simp only [srcAt]
    cases q : st[n]? with
    | none => exact ⟨fun e => (by cases e), fun t e => (by cases e)⟩
    | some o =>
      cases o with
      | lst xs =>
        obtain ⟨vs, h3, h2⟩ := RO.list (s.rs.at_ n _ a q h1)
        exact lst a xs vs (.of h3) h2
      | _ => exact ⟨fun e => (by cases e), fun t e => (by cases e)⟩
  | rng lo k =>
    have e : J = Itr lo k := h
    subst e
    simp only [srcAt]
    cases q : Nat.blt i k with
    | true =>
      refine ⟨fun e => (by cases e), fun t e => ?_⟩
      have e := Option.some.inj (Option.some.inj e)
      subst e
      exact ⟨Nat.le_of_ble_eq_true q, fun x H2 ⟨y1, y2⟩ => ⟨by rw [y1]; exact fun _ _ e => e, y2⟩⟩
    | false =>
      refine ⟨fun e => ?_, fun t e => (by cases e)⟩
      show k ≤ i
      have : ¬ i < k := fun z => by
        have : Nat.blt i k = true := Nat.ble_eq_true_of_le z
        rw [q] at this; cases this
      omega
  | str x =>
    have e : J = Its x := h
    subst e
    simp only [srcAt]
    cases q : x.cps[i]? with
    | none =>
      refine ⟨fun e => ?_, fun t e => (by cases e)⟩
      show x.cps.size ≤ i
      simpa using q
    | some c =>
      refine ⟨fun e => (by cases e), fun t e => ?_⟩
      have e := Option.some.inj (Option.some.inj e)
      subst e
      refine ⟨?_, fun y H2 ⟨y1, c', y2, y3⟩ => ⟨by rw [y1]; exact fun _ _ e => e, ?_⟩⟩
      · show i < x.cps.size
        exact (Array.getElem?_eq_some_iff.mp q).1
      · rw [q] at y2; cases y2; exact y3
  | scr ns =>
    obtain ⟨a, rfl, r⟩ := h
    have h1 := scr_sq r
    simp only [srcAt]
    cases q : ns[i]? with
    | none =>
      refine ⟨fun e => ⟨_, h1, ?_⟩, fun t e => (by cases e)⟩
      rw [List.length_map]
      exact List.getElem?_eq_none_iff.mp q
    | some n =>
      have e1 : (ns.map V.int)[i]? = some (.int n) := by rw [List.getElem?_map, q]; rfl
      refine ⟨fun e => (by cases e), fun t e => ?_⟩
      have e := Option.some.inj (Option.some.inj e)
      subst e
      refine ⟨⟨_, _, h1, e1⟩, fun x H2 y => ?_⟩
      obtain ⟨rfl, y⟩ := y
      have := y _ h1
      rw [e1] at this; cases this
      exact ⟨fun _ _ e => e, rfl⟩
  | zipT xs ys =>
    obtain ⟨a, b, rfl, ra, rb⟩ := h
    obtain ⟨a', vs, e, h1, h2⟩ := ra
    cases e
    obtain ⟨b', ws, e, h3, h4⟩ := rb
    cases e
    have q1 := tupK_sq h1
    have q2 := tupK_sq h3
    simp only [srcAt]
    cases z1 : xs[i]? with
    | none => exact ⟨fun e => ⟨vs, ws, q1, q2, .inl (by rw [← h2.length]; exact List.getElem?_eq_none_iff.mp z1)⟩, fun t e => (by cases e)⟩
    | some x =>
      cases z2 : ys[i]? with
      | none => exact ⟨fun e => ⟨vs, ws, q1, q2, .inr (by rw [← h4.length]; exact List.getElem?_eq_none_iff.mp z2)⟩, fun t e => (by cases e)⟩
      | some y =>
        obtain ⟨v, e1, r1⟩ := h2.get z1
        obtain ⟨w, e2, r2⟩ := h4.get z2
        refine ⟨fun e => (by cases e), fun t e => ?_⟩
        have e := Option.some.inj (Option.some.inj e)
        subst e
        refine ⟨⟨vs, ws, v, w, q1, q2, e1, e2⟩, fun u H2 y => ?_⟩
        obtain ⟨p, ob, v', w', rfl, hp, ho, rfl, y1, y2⟩ := y
        have f1 := y1 vs q1
        have f2 := y2 ws q2
        rw [e1] at f1; cases f1
        rw [e2] at f2; cases f2
        exact ⟨Same.upd hp, RV.tupNew s hp ho ⟨_, _, rfl, r1, _, _, rfl, r2, rfl⟩⟩
  | zipL xs ys =>
    obtain ⟨a, b, rfl, ra, rb⟩ := h
    obtain ⟨a', vs, e, _, _, h1, h2⟩ := ra
    cases e
    obtain ⟨b', ws, e, _, _, h3, h4⟩ := rb
    cases e
    have q1 : SqL Γ.K H a vs := .of h1
    have q2 : SqL Γ.K H b ws := .of h3
    simp only [srcAt]
    cases z1 : xs[i]? with
    | none => exact ⟨fun e => ⟨vs, ws, q1, q2, .inl (by rw [← h2.length]; exact List.getElem?_eq_none_iff.mp z1)⟩, fun t e => (by cases e)⟩
    | some x =>
      cases z2 : ys[i]? with
      | none => exact ⟨fun e => ⟨vs, ws, q1, q2, .inr (by rw [← h4.length]; exact List.getElem?_eq_none_iff.mp z2)⟩, fun t e => (by cases e)⟩
      | some y =>
        obtain ⟨v, e1, r1⟩ := h2.get z1
        obtain ⟨w, e2, r2⟩ := h4.get z2
        refine ⟨fun e => (by cases e), fun t e => ?_⟩
        have e := Option.some.inj (Option.some.inj e)
        subst e
        refine ⟨⟨vs, ws, v, w, q1, q2, e1, e2⟩, fun u H2 y => ?_⟩
        obtain ⟨p, ob, v', w', rfl, hp, ho, rfl, y1, y2⟩ := y
        have f1 := y1 vs q1
        have f2 := y2 ws q2
        rw [e1] at f1; cases f1
        rw [e2] at f2; cases f2
        exact ⟨Same.upd hp, RV.tupNew s hp ho ⟨_, _, rfl, r1, _, _, rfl, r2, rfl⟩⟩
  | enumL xs =>
    obtain ⟨a, rfl, ra⟩ := h
    obtain ⟨a', vs, e, _, _, h1, h2⟩ := ra
    cases e
    have q1 : SqL Γ.K H a vs := .of h1
    simp only [srcAt]
    cases z1 : xs[i]? with
    | none => exact ⟨fun e => ⟨vs, q1, by rw [← h2.length]; exact List.getElem?_eq_none_iff.mp z1⟩, fun t e => (by cases e)⟩
    | some x =>
      obtain ⟨v, e1, r1⟩ := h2.get z1
      refine ⟨fun e => (by cases e), fun t e => ?_⟩
      have e := Option.some.inj (Option.some.inj e)
      subst e
      refine ⟨⟨vs, v, q1, e1⟩, fun u H2 y => ?_⟩
      obtain ⟨p, ob, v', rfl, hp, ho, rfl, y1⟩ := y
      have f1 := y1 vs q1
      rw [e1] at f1; cases f1
      exact ⟨Same.upd hp, RV.tupNew s hp ho ⟨_, _, rfl, rfl, _, _, rfl, r1, rfl⟩⟩
  | zipM xs ys =>
    obtain ⟨a, b, rfl, ra, rb⟩ := h
    obtain ⟨a', vs, e, _, _, h1, h2⟩ := ra
    cases e
    obtain ⟨b', ws, e, h3, h4⟩ := rb
    cases e
    have q1 : SqL Γ.K H a vs := .of h1
    have q2 := tupK_sq h3
    simp only [srcAt]
    cases z1 : xs[i]? with
    | none => exact ⟨fun e => ⟨vs, ws, q1, q2, .inl (by rw [← h2.length]; exact List.getElem?_eq_none_iff.mp z1)⟩, fun t e => (by cases e)⟩
    | some x =>
      cases z2 : ys[i]? with
      | none => exact ⟨fun e => ⟨vs, ws, q1, q2, .inr (by rw [← h4.length]; exact List.getElem?_eq_none_iff.mp z2)⟩, fun t e => (by cases e)⟩
      | some y =>
        obtain ⟨v, e1, r1⟩ := h2.get z1
        obtain ⟨w, e2, r2⟩ := h4.get z2
        refine ⟨fun e => (by cases e), fun t e => ?_⟩
        have e := Option.some.inj (Option.some.inj e)
        subst e
        refine ⟨⟨vs, ws, v, w, q1, q2, e1, e2⟩, fun u H2 y => ?_⟩
        obtain ⟨p, ob, v', w', rfl, hp, ho, rfl, y1, y2⟩ := y
        have f1 := y1 vs q1
        have f2 := y2 ws q2
        rw [e1] at f1; cases f1
        rw [e2] at f2; cases f2
        exact ⟨Same.upd hp, RV.tupNew s hp ho ⟨_, _, rfl, r1, _, _, rfl, r2, rfl⟩⟩
  | zipN xs ys =>
    obtain ⟨a, b, rfl, ra, rb⟩ := h
    obtain ⟨a', vs, e, h1, h2⟩ := ra
    cases e
    obtain ⟨b', ws, e, _, _, h3, h4⟩ := rb
    cases e
    have q1 := tupK_sq h1
    have q2 : SqL Γ.K H b ws := .of h3
    simp only [srcAt]
    cases z1 : xs[i]? with
    | none => exact ⟨fun e => ⟨vs, ws, q1, q2, .inl (by rw [← h2.length]; exact List.getElem?_eq_none_iff.mp z1)⟩, fun t e => (by cases e)⟩
    | some x =>
      cases z2 : ys[i]? with
      | none => exact ⟨fun e => ⟨vs, ws, q1, q2, .inr (by rw [← h4.length]; exact List.getElem?_eq_none_iff.mp z2)⟩, fun t e => (by cases e)⟩
      | some y =>
        obtain ⟨v, e1, r1⟩ := h2.get z1
        obtain ⟨w, e2, r2⟩ := h4.get z2
        refine ⟨fun e => (by cases e), fun t e => ?_⟩
        have e := Option.some.inj (Option.some.inj e)
        subst e
        refine ⟨⟨vs, ws, v, w, q1, q2, e1, e2⟩, fun u H2 y => ?_⟩
        obtain ⟨p, ob, v', w', rfl, hp, ho, rfl, y1, y2⟩ := y
        have f1 := y1 vs q1
        have f2 := y2 ws q2
        rw [e1] at f1; cases f1
        rw [e2] at f2; cases f2
        exact ⟨Same.upd hp, RV.tupNew s hp ho ⟨_, _, rfl, r1, _, _, rfl, r2, rfl⟩⟩
  | enumT xs =>
    obtain ⟨a, rfl, ra⟩ := h
    obtain ⟨a', vs, e, h1, h2⟩ := ra
    cases e
    have q1 := tupK_sq h1
    simp only [srcAt]
    cases z1 : xs[i]? with
    | none => exact ⟨fun e => ⟨vs, q1, by rw [← h2.length]; exact List.getElem?_eq_none_iff.mp z1⟩, fun t e => (by cases e)⟩
    | some x =>
      obtain ⟨v, e1, r1⟩ := h2.get z1
      refine ⟨fun e => (by cases e), fun t e => ?_⟩
      have e := Option.some.inj (Option.some.inj e)
      subst e
      refine ⟨⟨vs, v, q1, e1⟩, fun u H2 y => ?_⟩
      obtain ⟨p, ob, v', rfl, hp, ho, rfl, y1⟩ := y
      have f1 := y1 vs q1
      rw [e1] at f1; cases f1
      exact ⟨Same.upd hp, RV.tupNew s hp ho ⟨_, _, rfl, rfl, _, _, rfl, r1, rfl⟩⟩
end
def tIv (Γ : Gam) (m : M Src) (W : WX) : TI := fun σ H R => ∃ (σp : Ev) (F ρ : List Addr) (st : List O), SR Γ F ρ H st ∧ RE Γ F ρ H σp σ ∧ Ran Γ F (fun ρ' _ H' s J => SrcR Γ F ρ' H' s J) (m σp st) ρ st H (fun cls d H' => W cls d σ H') R
def SI (Γ : Gam) (X : Cx) (W : WX) (tg iter : Expr) (m : M Src) : Prop := PI X tg iter (tIv Γ m W)
/-- a list or tuple of any kind -/
def srcOf (st : List O) (t : T) : Option Src := match t with
  | .lst xs => some (.lst xs)
  | .ref n => match st[n]? with
    | some (.lst _) => some (.live n)
    | _ => none
  | .scr ns => some (.scr ns)
  | _ => none
def mIL (a : ME) : M Src := fun σ st => (a σ st).bind fun t st1 => match srcOf st1 t with
  | some s => .ok s st1
  | none => .no
def mIT (a : ME) : M Src := fun σ st => (a σ st).bind fun t st1 => match t with
  | .tup xs => .ok (.tup xs) st1
  | _ => .no
def mIS (a : ME) : M Src := fun σ st => (a σ st).bind fun t st1 => match t with
  | .str x => .ok (.str x) st1
  | _ => .no
def rngOk (j : Int) : Bool := decide (-(2 ^ 62) ≤ j) && decide (j < 2 ^ 62)
def oneInt : List T → Option Int
  | [.int j] => some j
  | _ => none
theorem oneInt_ok {Γ : Gam} {F ρ : List Addr} {H : Hp} {ts : List T} {vs : List V} {j : Int} (e : oneInt ts = some j) (r : RVs Γ F ρ H ts vs) : vs = [.int j] := by
  unfold oneInt at e
  split at e
  · cases e
    obtain ⟨v, _, rfl, q1, rfl⟩ := r
    rw [show v = _ from q1]
  · cases e
def mIR1 (a : M (List T)) : M Src := fun σ st => (a σ st).bind fun ts st1 => match oneInt ts with
  | some j => match rngOk j with
    | true => .ok (.rng 0 j.toNat) st1
    | false => .no
  | none => .no
section
variable {Γ : Gam} {X : Cx} {W : WX} {tg e : Expr} {a : ME} {m : M (List T)}
theorem PI.imp {t t' : TI} (h : PI X tg e t) (i : ∀ σ H Q, t' σ H Q → t σ H Q) : PI X tg e t' := ⟨fun pins s σ H Q I q => h.run pins s σ H Q I (i σ H Q q)⟩
/-- the walk over a list or a tuple, whichever it is -/
theorem sI_list (hK : X.K = Γ.K) (ha : SE Γ X W e a) : SI Γ X W tg e (mIL a) :=
  PI.imp (pi_list ha) fun σ H R ⟨σp, F, ρ, st, s, re, h⟩ => ⟨σp, F, ρ, st, s, re, Ran.bind s h fun t st1 v H1 ρ1 _ s1 p1 r1 h1 => by
    rw [hK]
    cases t with
    | lst xs => obtain ⟨p, vs, rfl, n1, n2, g1, g2⟩ := r1; exact ⟨p, rfl, ⟨vs, .of g1⟩, Ran.done s1 h1 ⟨p, rfl, p, vs, rfl, n1, n2, g1, g2⟩⟩
    | scr ns => obtain ⟨p, rfl, g1⟩ := r1; exact ⟨p, rfl, ⟨_, scr_sq ⟨p, rfl, g1⟩⟩, Ran.done s1 h1 ⟨p, rfl, p, rfl, g1⟩⟩
    | ref n =>
      obtain ⟨p, rfl, g1⟩ := r1
      simp only [srcOf] at h1
      cases q : st1[n]? with
      | none => rw [q] at h1; exact h1.elim
      | some o =>
        cases o with
        | lst xs =>
          rw [q] at h1
          obtain ⟨vs, g3, _⟩ := RO.list (s1.rs.at_ n _ p q g1)
          exact ⟨p, rfl, ⟨vs, .of g3⟩, Ran.done s1 h1 ⟨p, rfl, p, rfl, g1⟩⟩
        | _ => rw [q] at h1; exact h1.elim
    | _ => exact h1.elim⟩
theorem sI_tup (hK : X.K = Γ.K) (ha : SE Γ X W e a) : SI Γ X W tg e (mIT a) :=
  PI.imp (pi_tup ha) fun σ H R ⟨σp, F, ρ, st, s, re, h⟩ => ⟨σp, F, ρ, st, s, re, Ran.bind s h fun t st1 v H1 ρ1 _ s1 p1 r1 h1 => by
    rw [hK]
    cases t with
    | tup xs => obtain ⟨p, vs, rfl, g1, g2⟩ := r1; exact ⟨p, rfl, ⟨vs, tupK_sq g1⟩, Ran.done s1 h1 ⟨p, rfl, p, vs, rfl, g1, g2⟩⟩
    | _ => exact h1.elim⟩
theorem sI_str (ha : SE Γ X W e a) : SI Γ X W tg e (mIS a) :=
  PI.imp (pi_str ha) fun σ H R ⟨σp, F, ρ, st, s, re, h⟩ => ⟨σp, F, ρ, st, s, re, Ran.bind s h fun t st1 v H1 ρ1 _ s1 p1 r1 h1 => by
    cases t with
    | str x => exact ⟨x, r1, Ran.done s1 h1 rfl⟩
    | _ => exact h1.elim⟩
theorem rngOk_ok {j : Int} (h : rngOk j = true) : -(2 ^ 62) ≤ j ∧ j < 2 ^ 62 := by
  obtain ⟨h1, h2⟩ := Bool.and_eq_true_iff.mp h
  exact ⟨of_decide_eq_true h1, of_decide_eq_true h2⟩
theorem sI_rng1 {p pos : Pos} (hm : X.mg "range" = none) (ha : SA Γ X W [e] m) (hg : Gl X "range" := by rfl) (hs : starEach [e] X.env = [(false, eval e X.env)] := by rfl) : SI Γ X W tg (.Call (.Name "range" p) [e] [] pos) (mIR1 m) :=
  PI.imp (pi_range1 hg hm ha hs) fun σ H R ⟨σp, F, ρ, st, s, re, h⟩ => ⟨σp, F, ρ, st, s, re, Ran.bind s h fun ts st1 vs H1 ρ1 _ s1 p1 r1 h1 => by
    cases q0 : oneInt ts with
    | none => rw [q0] at h1; exact h1.elim
    | some j =>
      simp only [q0] at h1
      cases q : rngOk j with
      | false => rw [q] at h1; exact h1.elim
      | true => rw [q] at h1; obtain ⟨z1, z2⟩ := rngOk_ok q; exact ⟨j, oneInt_ok q0 r1, z1, z2, Ran.done s1 h1 rfl⟩⟩
end

/-! ### for, while -/
def forL (src : Src) (g : AG) (body : MS) : Nat → Nat → MS
  | 0, _ => fun _ _ => .no
  | m + 1, i => fun σ st => match srcAt src st i with
    | none => .no
    | some none => .ok (.nx σ) st
    | some (some t) => match g t σ with
      | none => .no
      | some σ1 => match body σ1 st with
        | .ok (.nx σ2) st2 => forL src g body m (i + 1) σ2 st2
        | .ok (.ct σ2) st2 => forL src g body m (i + 1) σ2 st2
        | .ok (.bk σ2) st2 => .ok (.nx σ2) st2
        | r => r
def fuel : Nat := 1000000
def mFor (it : M Src) (g : AG) (body : MS) : MS := fun σ st => (it σ st).bindS σ fun src st1 => forL src g body fuel 0 σ st1
def whL (c : M Bool) (body : MS) : Nat → MS
  | 0 => fun _ _ => .no
  | m + 1 => fun σ st => (c σ st).bindS σ fun k st1 => match k with
    | false => .ok (.nx σ) st1
    | true => match body σ st1 with
      | .ok (.nx σ2) st2 => whL c body m σ2 st2
      | .ok (.ct σ2) st2 => whL c body m σ2 st2
      | .ok (.bk σ2) st2 => .ok (.nx σ2) st2
      | r => r
def mWhile (c : M Bool) (body : MS) : MS := whL c body fuel
section
variable {Γ : Gam} {X : Cx} {W : WX} {tg iter c : Expr} {it : M Src} {g : AG} {vs : List Nat} {body : List Stmt} {b : MS} {m : M Bool} {pos : Pos}
theorem sS_for (hi : SI Γ X W tg iter it) (hg : SG Γ X vs tg g) (hb : SSs Γ X W body b) (hp : PassesOwn (model X.prog X.w) X.A X.env X.xe) (hc : X.calm = true := by rfl) (hs : ∀ x, foldedSetIterable iter X.env x = pure x := by intro _; rfl) : SS Γ X W (.For tg iter body [] pos) (mFor it g b) :=
  (ps_for hp hc hi hg hb hs).imp fun D σ H ⟨σp, F, ρ, st, s, re, h⟩ => ⟨σp, F, ρ, st, s, re, RanS.lift s re h fun src st1 J H1 ρ1 s1 p1 re1 r1 h1 => by
    refine ⟨fun i m σ H => ∃ (σp : Ev) (ρ : List Addr) (st : List O), SR Γ F ρ H st ∧ RE Γ F ρ H σp σ ∧ SrcR Γ F ρ H src J ∧ RanS Γ F (forL src g b m i σp st) ρ st H W D, ⟨fuel, σp, ρ1, st1, s1, re1, r1, h1⟩, ?_⟩
    rintro i m σ H ⟨σp, ρ, st, s, re, sr, h⟩
    cases m with
    | zero => exact h.elim
    | succ m =>
      obtain ⟨t1, t2⟩ := sr.turn s i
      unfold forL at h
      cases q : srcAt src st i with
      | none => rw [q] at h; exact h.elim
      | some o =>
        cases o with
        | none => rw [q] at h; exact .inl ⟨t1 q, h σ H ρ (.refl s.rs) re⟩
        | some t =>
          rw [q] at h
          obtain ⟨go, yl⟩ := t2 t q
          refine .inr ⟨go, fun σ' H' => ∃ (σp : Ev) (ρ : List Addr) (st : List O), SR Γ F ρ H' st ∧ RE Γ F ρ H' σp σ' ∧ SrcR Γ F ρ H' src J ∧ RanS Γ F (forL src g b m (i + 1) σp st) ρ st H' W D, fun σ' H' z => ⟨m, Nat.lt_succ_self m, z⟩, fun x H' y => ?_⟩
          obtain ⟨sm, rt⟩ := yl x H' y
          have pz := Post.same s.rs sm
          have h := RanS.shift s pz h
          have sr := sr.post s pz
          have re := re.post s pz
          have s := s.post pz
          refine ⟨t, σp, F, ρ, st, s, re, rt, ?_⟩
          cases q2 : g t σp with
          | none => simp only [q2] at h; exact h.elim
          | some σ1 =>
            simp only [q2] at h
            intro σ' re' _
            refine ⟨σ1, F, ρ, st, s, re', ?_⟩
            cases q3 : b σ1 st with
            | no => rw [q3] at h; exact h
            | exc e σ2 st2 => rw [q3] at h; exact h
            | ok f st2 =>
              rw [q3] at h
              cases f with
              | nx σ2 => exact fun σ'' H2 ρ2 p2 re2 => ⟨σ2, ρ2, st2, s.post p2, re2, sr.post s p2, RanS.shift s p2 h⟩
              | ct σ2 => exact fun σ'' H2 ρ2 p2 re2 => ⟨σ2, ρ2, st2, s.post p2, re2, sr.post s p2, RanS.shift s p2 h⟩
              | bk σ2 => exact fun σ'' H2 ρ2 p2 re2 => h σ'' H2 ρ2 p2 re2
              | rt t => exact h⟩
theorem sS_while (hc : STt Γ X W c m) (hb : SSs Γ X W body b) (hp : PassesOwn (model X.prog X.w) X.A X.env X.xe) : SS Γ X W (.While c body [] pos) (mWhile m b) :=
  (ps_while hp hc hb).imp fun D σ H ⟨σp, F, ρ, st, s, re, h⟩ => by
    refine ⟨fun m' σ H => ∃ (σp : Ev) (ρ : List Addr) (st : List O), SR Γ F ρ H st ∧ RE Γ F ρ H σp σ ∧ RanS Γ F (whL m b m' σp st) ρ st H W D, ⟨fuel, σp, ρ, st, s, re, h⟩, ?_⟩
    rintro k σ H ⟨σp, ρ, st, s, re, h⟩
    cases k with
    | zero => exact h.elim
    | succ k =>
      unfold whL at h
      refine ⟨σp, F, ρ, st, s, re, RanS.lift s re h fun t st1 v H1 ρ1 s1 p1 re1 r1 h1 => ?_⟩
      cases r1
      cases t with
      | false => exact iteF (h1 σ H1 ρ1 (.refl s1.rs) re1)
      | true =>
        refine iteT ⟨fun σ' H' => ∃ (σp : Ev) (ρ : List Addr) (st : List O), SR Γ F ρ H' st ∧ RE Γ F ρ H' σp σ' ∧ RanS Γ F (whL m b k σp st) ρ st H' W D, fun σ' H' z => ⟨k, Nat.lt_succ_self k, z⟩, σp, F, ρ1, st1, s1, re1, ?_⟩
        cases q3 : b σp st1 with
        | no => rw [q3] at h1; exact h1
        | exc e σ2 st2 => rw [q3] at h1; exact h1
        | ok f st2 =>
          rw [q3] at h1
          cases f with
          | nx σ2 => exact fun σ'' H2 ρ2 p2 re2 => ⟨σ2, ρ2, st2, s1.post p2, re2, RanS.shift s1 p2 h1⟩
          | ct σ2 => exact fun σ'' H2 ρ2 p2 re2 => ⟨σ2, ρ2, st2, s1.post p2, re2, RanS.shift s1 p2 h1⟩
          | bk σ2 => exact fun σ'' H2 ρ2 p2 re2 => h1 σ'' H2 ρ2 p2 re2
          | rt t => exact h1
end

/-! ### a def -/
def mDef (N : Nat) (b : MS) : MF := fun ts st => match b (ts.map some ++ List.replicate (N - ts.length) none) st with
  | .ok (.rt t) st1 => .ok t st1
  | .ok (.nx _) st1 => .ok .non st1
  | .exc e _ st1 => .exc e st1
  | _ => .no
theorem re_start {Γ : Gam} {F ρ : List Addr} {H : Hp} {N : List Str} {ts : List T} {vs : List V} (r : RVs Γ F ρ H ts vs) : RE Γ F ρ H (ts.map some ++ List.replicate (N.length - ts.length) none) (L2.start N vs) := by
  refine ⟨by simp [L2.start, r.length], fun i t e => ?_⟩
  by_cases hi : i < ts.length
  · rw [List.getElem?_append_left (by simpa using hi), List.getElem?_map] at e
    cases q : ts[i]? with
    | none => rw [q] at e; cases e
    | some u =>
      rw [q] at e
      have e := Option.some.inj (Option.some.inj e)
      subst e
      obtain ⟨v, e1, e2⟩ := r.get q
      refine ⟨v, ?_, e2⟩
      unfold L2.start
      rw [List.getElem?_append_left (by rw [List.length_map, ← r.length]; exact hi), List.getElem?_map, e1]
      rfl
  · rw [List.getElem?_append_right (by simpa using hi)] at e
    have := List.mem_of_getElem? e
    rw [List.mem_replicate] at this
    cases this.2
theorem mDef_run {Γ : Gam} {F ρ : List Addr} {H : Hp} {st : List O} {N : List Str} {b : MS} {ts : List T} {vs : List V} {E : XK} {Q : VK} (s : SR Γ F ρ H st) (r : RVs Γ F ρ H ts vs) (h : Ran Γ F (RT Γ F) (mDef N.length b ts st) ρ st H E Q) :
    tSv Γ b (fun cls d _ H => E cls d H) { nx := fun _ H' => Q .non H', rt := Q } (L2.start N vs) H := by
  refine ⟨_, F, ρ, st, s, re_start r, ?_⟩
  unfold mDef at h
  cases q : b (ts.map some ++ List.replicate (N.length - ts.length) none) st with
  | no => rw [q] at h; exact h
  | exc e σ2 st2 => rw [q] at h; exact fun cls d σ' H' ρ' p rx _ => h cls d H' ρ' p rx
  | ok f st2 =>
    rw [q] at h
    cases f with
    | nx σ2 => exact fun σ' H' ρ' p _ => h .non H' ρ' p rfl
    | rt t => exact h
    | bk σ2 => exact h.elim
    | ct σ2 => exact h.elim
section
variable {Γ : Gam} {P : Program} {w : World} {K : PySem.W.Frag} {mg : Str → Option Value} {base : Heap} {x qual : Str} {params : Arguments} {body : List Stmt} {scope : Scope} {dvs : List V} {kws : List (Str × V)} {f : Addr} {fd : FuncData}
theorem fn_ok {N ps : List Str} {k n : Nat} {b : MS} (Fd : FunD K x qual params body scope dvs kws f fd) (S : FnScope N ps scope) (hn : ps.length = n)
    (hb : ∀ (cdv : Value) (A : Around) (outer : List Env) (s : Shared) (H : Hp) (E : XK), Room k (A.deeper (envOfC qual scope s.heap.objs.size f cdv)) →
      SSs Γ (cxOf (L2.CX P w) P w K mg base N qual scope f cdv A outer s H E) (fun cls d _ H => E cls d H) body b) :
    FnOk P w K mg base (L2.CX P w) (k + 1) f fd ps (spOf Γ n (mDef N.length b)) :=
  Fd.ok S (fun vs H Q E ⟨ts, F, ρ, st, s, r, l, h⟩ => by rw [← r.length, l, hn]) fun cdv A outer s H vs Q E hr ⟨ts, F, ρ, st, sr, r, l, h⟩ => ⟨_, hb cdv A outer s H E hr, mDef_run sr r h⟩
end
end WR
namespace WR
open PySem PySem.Spec PyProof.Rows L2

/-! ### list comprehensions -/
abbrev W0 : WX := fun _ _ _ _ => False
def wipeE (σ : Ev) : List Nat → Ev
  | [] => σ
  | v :: vs => (wipeE σ vs).set v none
/-- the items of a comprehension; nothing is raised within -/
def lcL (src : Src) (g : AG) (c : M Bool) (elt : ME) (σ : Ev) : Nat → Nat → List T → List O → Rs (List T)
  | 0, _, _, _ => .no
  | m + 1, i, acc, st => match srcAt src st i with
    | none => .no
    | some none => .ok acc st
    | some (some t) => match g t σ with
      | none => .no
      | some σ1 => match c σ1 st with
        | .ok true st1 => match elt σ1 st1 with
          | .ok y st2 => match decide (acc.length < 16777216) with
            | true => lcL src g c elt σ m (i + 1) (acc ++ [y]) st2
            | false => .no
          | _ => .no
        | .ok false st1 => lcL src g c elt σ m (i + 1) acc st1
        | _ => .no
def mLc (it : M Src) (vs : List Nat) (g : AG) (c : M Bool) (elt : ME) : ME := fun σ st => (it σ st).bind fun src st1 => match lcL src g c elt (wipeE σ vs) fuel 0 [] st1 with
  | .ok acc st2 => .ok (.lst acc) st2
  | _ => .no
/-- the tests of a clause -/
def tPTs (Γ : Gam) (m : M Bool) : TT := tTv Γ m W0
def STs (Γ : Gam) (X : Cx) (ifs : List Expr) (m : M Bool) : Prop := PTs X ifs (tTv Γ m W0)
def mYes : M Bool := fun _ st => .ok true st
theorem PTs.imp {X : Cx} {ifs : List Expr} {t t' : TT} (h : PTs X ifs t) (i : ∀ σ H Q, t' σ H Q → t σ H Q) : PTs X ifs t' := ⟨fun pins s σ H Q I q => h.run pins s σ H Q I (i σ H Q q)⟩
section
variable {Γ : Gam} {X : Cx}
theorem sTs_nil : STs Γ X [] mYes := PTs.imp pts_nil fun σ H Q ⟨σp, F, ρ, st, s, re, h⟩ => Ran.done s h rfl
theorem sTs_one {c : Expr} {m : M Bool} (h : STt Γ X W0 c m) : STs Γ X [c] m := pts_one h
theorem wipeE_len (σ : Ev) : ∀ vs, (wipeE σ vs).length = σ.length
  | [] => rfl
  | v :: vs => by unfold wipeE; rw [List.length_set, wipeE_len σ vs]
theorem wipeE_some {σ : Ev} {i : Nat} {x : T} : ∀ {vs : List Nat}, (wipeE σ vs)[i]? = some (some x) → σ[i]? = some (some x) ∧ i ∉ vs
  | [], h => ⟨h, by simp⟩
  | v :: vs, h => by
    unfold wipeE at h
    by_cases hi : v = i
    · subst hi
      by_cases hv : v < (wipeE σ vs).length
      · rw [List.getElem?_set_self hv] at h; cases h
      · rw [List.getElem?_eq_none (by simpa using hv)] at h; cases h
    · rw [List.getElem?_set_ne hi] at h
      obtain ⟨h1, h2⟩ := wipeE_some h
      exact ⟨h1, fun z => by rcases List.mem_cons.mp z with z | z; exact hi z.symm; exact h2 z⟩
theorem RE.wipe {F ρ : List Addr} {H : Hp} {σp : Ev} {σ : L2.St} (re : RE Γ F ρ H σp σ) (vs : List Nat) : RE Γ F ρ H (wipeE σp vs) (wipe σ vs) := ⟨by rw [wipeE_len, wipe_length, re.len], fun i t e => by
  obtain ⟨h1, h2⟩ := wipeE_some e
  obtain ⟨v, e1, r⟩ := re.at_ i t h1
  exact ⟨v, by rw [wipe_out h2]; exact e1, r⟩⟩
theorem wipe_ext : ∀ {vs : List Nat} {σ σ' : L2.St}, σ.length = σ'.length → (∀ i, i ∉ vs → σ[i]? = σ'[i]?) → wipe σ vs = wipe σ' vs := by
  intro vs σ σ' hl h
  apply List.ext_getElem?
  intro i
  by_cases hi : i ∈ vs
  · have gen : ∀ (σ : L2.St), (wipe σ vs)[i]? = if i < σ.length then some none else none := by
      intro σ
      clear h hl
      induction vs with
      | nil => cases hi
      | cons v vs ih =>
        unfold wipe
        by_cases hv : v = i
        · subst hv
          by_cases hlt : v < σ.length
          · rw [List.getElem?_set_self (by rw [wipe_length]; exact hlt), if_pos hlt]
          · rw [List.getElem?_eq_none (by rw [List.length_set, wipe_length]; omega), if_neg hlt]
        · rw [List.getElem?_set_ne hv]
          exact ih ((List.mem_cons.mp hi).resolve_left fun z => hv z.symm)
    rw [gen, gen, hl]
  · rw [wipe_out hi, wipe_out hi]
    exact h i hi
theorem wipe_wipe {σ : L2.St} {vs : List Nat} : wipe (wipe σ vs) vs = wipe σ vs := wipe_ext (wipe_length σ vs) fun i hi => wipe_out hi
theorem RE.grow {F F' ρ ρ' : List Addr} {H H' : Hp} {σp : Ev} {σ : L2.St} (hF : ∀ a ∈ F', a ∈ F ∨ H a = none) (g : Grow ρ ρ' H) (k : KeepW F ρ H H') (re : RE Γ F ρ H σp σ) : RE Γ F' ρ' H' σp σ := ⟨re.len, fun i t e => by
  obtain ⟨v, e1, r⟩ := re.at_ i t e
  exact ⟨v, e1, RV.grow hF g k _ _ r⟩⟩
theorem RS.grow {F F' ρ : List Addr} {H H' : Hp} {st : List O} (s : RS Γ F ρ H st) (hF : ∀ a ∈ F', a ∈ F ∨ H a = none) (k : KeepW F ρ H H') (e : ∀ a ∈ ρ, ∀ u, H a = some u → H' a = some u) : RS Γ F' ρ H' st :=
  ⟨s.len, s.nd, fun n o a e1 e2 => RO.grow hF .refl k (fun u z => e a (List.mem_of_getElem? e2) u z) (s.at_ n o a e1 e2)⟩
/-- the new list D is looked after while it grows -/
structure Lc (Γ : Gam) (F ρ1 : List Addr) (H1 : Hp) (D : Addr) (ρ : List Addr) (H : Hp) (st : List O) (accV : List V) : Prop where
  sr : SR Γ (D :: F) ρ H st
  gr : Grow ρ1 ρ H1
  kp : Keep ρ1 H1 H
  at_ : H D = some (.lst accV)
theorem Lc.start {F ρ1 : List Addr} {H1 : Hp} {D : Addr} {st : List O} (s : SR Γ F ρ1 H1 st) (hD : H1 D = none) : Lc Γ F ρ1 H1 D ρ1 (upd H1 D (.lst [])) st [] where
  sr := ⟨s.rs.grow (fun a z => (List.mem_cons.mp z).elim (fun e => .inr (by rw [e]; exact hD)) .inl) (Keep.w (Same.keep (Same.upd hD))) (fun a _ u e => Same.upd hD a u e), fun a z => by
    rcases List.mem_cons.mp z with z | z
    · subst z; rw [upd_same]; simp
    · by_cases h : a = D
      · subst h; rw [upd_same]; simp
      · rw [upd_ne h]; exact s.trk a z, fun a z => by
    rcases List.mem_cons.mp z with z | z
    · subst z; exact (s.fresh hD).2
    · exact s.dis a z⟩
  gr := .refl
  kp := Same.keep (Same.upd hD)
  at_ := upd_same
theorem KeepW.refl {F ρ : List Addr} {H : Hp} : KeepW F ρ H H := fun _ _ e _ => e
section
variable {F ρ1 ρ ρ' : List Addr} {H1 H H' : Hp} {D : Addr} {st st' : List O} {accV : List V}
theorem Lc.next (l : Lc Γ F ρ1 H1 D ρ H st accV) (p : Post Γ (D :: F) ρ H ρ' st' H') : Lc Γ F ρ1 H1 D ρ' H' st' accV where
  sr := l.sr.post p
  gr := by
    obtain ⟨n1, e1, h1⟩ := l.gr
    obtain ⟨n2, e2, h2⟩ := p.grow
    refine ⟨n1 ++ n2, by rw [e2, e1, List.append_assoc], fun a h => ?_⟩
    rcases List.mem_append.mp h with h | h
    · exact h1 a h
    · have e := h2 a h
      cases q1 : H1 a with
      | none => rfl
      | some o =>
        by_cases c : a ∈ ρ1
        · obtain ⟨u, z, _⟩ := l.sr.rs.mem (a := a) (by rw [e1]; exact List.mem_append_left _ c)
          rw [e] at z; cases z
        · have := l.kp a o q1 (.inl c)
          rw [e] at this; cases this
  kp := fun a o e c => by
    refine p.keep a o (l.kp a o e c) ?_
    rcases c with c | c
    · refine .inl fun z => ?_
      rcases l.gr.mem z with z | z
      · exact c z
      · rw [e] at z; cases z
    · exact .inr c
  at_ := p.keep D _ l.at_ (.inl (l.sr.dis D List.mem_cons_self))
theorem Lc.keepD (l : Lc Γ F ρ1 H1 D ρ H st accV) (ys : List V) : KeepW (D :: F) ρ H (upd H D (.lst ys)) := fun a o e c => by
  have : a ≠ D := fun z => by
    subst z
    rcases c with c | c
    · exact c.1 List.mem_cons_self
    · rw [l.at_] at e; cases e; exact c
  rw [upd_ne this]; exact e
theorem Lc.app (l : Lc Γ F ρ1 H1 D ρ H st accV) (hD : H1 D = none) (y : V) : Lc Γ F ρ1 H1 D ρ (upd H D (.lst (accV ++ [y]))) st (accV ++ [y]) where
  sr := ⟨l.sr.rs.grow (fun _ z => .inl z) (l.keepD _) (fun a h u e => by
      rw [upd_ne (fun z => l.sr.dis D List.mem_cons_self (by rw [← z]; exact h))]; exact e), fun a z => by
      by_cases h : a = D
      · subst h; rw [upd_same]; simp
      · rw [upd_ne h]; exact l.sr.trk a z, l.sr.dis⟩
  gr := l.gr
  kp := fun a o e c => by
    rw [upd_ne (fun z => by subst z; rw [hD] at e; cases e)]
    exact l.kp a o e c
  at_ := upd_same
theorem Lc.done (l : Lc Γ F ρ1 H1 D ρ H st accV) (s1 : SR Γ F ρ1 H1 st') (hD : H1 D = none) {acc : List T} (r : RVs Γ (D :: F) ρ H acc accV) : Post Γ F ρ1 H1 ρ st H ∧ RV Γ F ρ H (.lst acc) (.ref D) :=
  ⟨⟨l.gr, l.kp, l.sr.rs.grow (fun _ z => .inl (List.mem_cons_of_mem _ z)) KeepW.refl fun _ _ _ e => e⟩,
   D, accV, rfl, (s1.fresh hD).1, l.sr.dis D List.mem_cons_self, l.at_, RVs.grow (fun _ z => .inl (List.mem_cons_of_mem _ z)) .refl KeepW.refl _ _ r⟩
end
/-- what the loop asks of its end -/
def LcEnd (Γ : Gam) (F ρ1 : List Addr) (H1 : Hp) (D : Addr) (r : Rs (List T)) (Q : VK) : Prop := match r with
  | .ok acc st' => ∀ ρ H accV, Lc Γ F ρ1 H1 D ρ H st' accV → RVs Γ (D :: F) ρ H acc accV → Q (.ref D) H
  | _ => False
/-- the loop's reading, for one clause -/
theorem lc_loop {src : Src} {J : It} {g : AG} {gt : TG} {c : M Bool} {tt : TT} {elt : ME} {te : TE} {vs : List Nat} {σp : Ev} {σ : L2.St} {F ρ1 : List Addr} {H1 : Hp} {D : Addr} {Q : VK} (hD : H1 D = none)
    (hg : ∀ v σ H Q, tGv Γ g vs v σ H Q → gt v σ H Q) (ht : ∀ σ H Q, tTv Γ c W0 σ H Q → tt σ H Q) (he : ∀ σ H Q, tEv Γ elt W0 σ H Q → te σ H Q)
    (i m : Nat) (H : Hp) (w : ∃ (ρ : List Addr) (st : List O) (acc : List T) (accV : List V), Lc Γ F ρ1 H1 D ρ H st accV ∧ RVs Γ (D :: F) ρ H acc accV ∧ RE Γ (D :: F) ρ H (wipeE σp vs) (wipe σ vs) ∧ SrcR Γ (D :: F) ρ H src J ∧ LcEnd Γ F ρ1 H1 D (lcL src g c elt (wipeE σp vs) m i acc st) Q) :
    (J.stop i H ∧ Q (.ref D) H) ∨ (J.go i H ∧ ∃ Nx : Hp → Prop, (∀ H', Nx H' → ∃ m', m' < m ∧ ∃ (ρ : List Addr) (st : List O) (acc : List T) (accV : List V), Lc Γ F ρ1 H1 D ρ H' st accV ∧ RVs Γ (D :: F) ρ H' acc accV ∧ RE Γ (D :: F) ρ H' (wipeE σp vs) (wipe σ vs) ∧ SrcR Γ (D :: F) ρ H' src J ∧ LcEnd Γ F ρ1 H1 D (lcL src g c elt (wipeE σp vs) m' (i + 1) acc st) Q) ∧
      ∀ x H', J.yld i H x H' → gt x (wipe σ vs) H' fun σ2 H2 => wipe σ2 vs = wipe σ vs ∧ tt σ2 H2 fun b H3 =>
        if b = true then te σ2 H3 fun y H4 => ∃ acc, H4 D = some (.lst acc) ∧ acc.length < sizeLine ∧ Nx (upd H4 D (.lst (acc ++ [y]))) else Nx H3) := by
  obtain ⟨ρ, st, acc, accV, l, ra, re, sr, h⟩ := w
  cases m with
  | zero => exact h.elim
  | succ m =>
    obtain ⟨t1, t2⟩ := sr.turn l.sr i
    unfold lcL at h
    cases q : srcAt src st i with
    | none => rw [q] at h; exact h.elim
    | some o =>
      cases o with
      | none => rw [q] at h; exact .inl ⟨t1 q, h ρ H accV l ra⟩
      | some t =>
        rw [q] at h
        obtain ⟨go, yl⟩ := t2 t q
        refine .inr ⟨go, fun H' => ∃ (ρ : List Addr) (st : List O) (acc : List T) (accV : List V), Lc Γ F ρ1 H1 D ρ H' st accV ∧ RVs Γ (D :: F) ρ H' acc accV ∧ RE Γ (D :: F) ρ H' (wipeE σp vs) (wipe σ vs) ∧ SrcR Γ (D :: F) ρ H' src J ∧ LcEnd Γ F ρ1 H1 D (lcL src g c elt (wipeE σp vs) m (i + 1) acc st) Q, fun H' z => ⟨m, Nat.lt_succ_self m, z⟩, fun x H' y => ?_⟩
        obtain ⟨sm, rt⟩ := yl x H' y
        have pz := Post.same l.sr.rs sm
        have ra := pz.rvs l.sr.rs ra
        have sr := sr.post l.sr pz
        have re := re.post l.sr pz
        have l := l.next pz
        refine hg _ _ _ _ ⟨t, _, _, _, _, l.sr, re, rt, ?_⟩
        cases q2 : g t (wipeE σp vs) with
        | none => simp only [q2] at h; exact h.elim
        | some σ1 =>
          simp only [q2] at h
          intro σ' re' ky
          refine ⟨(wipe_ext ky.1 ky.2).trans wipe_wipe, ?_⟩
          refine ht _ _ _ ⟨σ1, _, _, _, l.sr, re', ?_⟩
          cases q3 : c σ1 st with
          | no => rw [q3] at h; exact h
          | exc e st1 => rw [q3] at h; exact h.elim
          | ok b st1 =>
            rw [q3] at h
            intro b' H3 ρ3 p3 eb
            cases eb
            have l3 := l.next p3
            cases b with
            | false => exact iteF ⟨ρ3, st1, acc, accV, l3, p3.rvs l.sr.rs ra, re.post l.sr p3, sr.post l.sr p3, h⟩
            | true =>
              refine iteT (he _ _ _ ⟨σ1, _, _, _, l3.sr, re'.post l.sr p3, ?_⟩)
              simp only at h
              cases q4 : elt σ1 st1 with
              | no => rw [q4] at h; exact h
              | exc e st2 => rw [q4] at h; exact h.elim
              | ok y st2 =>
                rw [q4] at h
                intro v H4 ρ4 p4 ry
                have l4 := l3.next p4
                simp only at h
                cases q5 : decide (acc.length < 16777216) with
                | false => rw [q5] at h; exact h.elim
                | true =>
                  rw [q5] at h
                  have ra4 := p4.rvs l3.sr.rs (p3.rvs l.sr.rs ra)
                  refine ⟨accV, l4.at_, by rw [← ra4.length, sizeLine_eq]; exact of_decide_eq_true q5, ρ4, st2, acc ++ [y], accV ++ [v], l4.app hD v, ?_, ?_, ?_, h⟩
                  · exact RVs.grow (fun _ z => .inl z) .refl (l4.keepD _) _ _ (ra4.snoc ry)
                  · exact RE.grow (fun _ z => .inl z) .refl (l4.keepD _) ((re.post l.sr p3).post l3.sr p4)
                  · exact SrcR.grow (fun _ z => .inl z) .refl (l4.keepD _) ((sr.post l.sr p3).post l3.sr p4)
/-- from the comprehension's start to its loop -/
theorem lc_begin {src : Src} {J : It} {g : AG} {c : M Bool} {elt : ME} {vs : List Nat} {σp : Ev} {σ : L2.St} {F ρ : List Addr} {H : Hp} {st : List O} {D : Addr} {Q : VK} {E : XK} (s : SR Γ F ρ H st) (re : RE Γ F ρ H σp σ) (sr : SrcR Γ F ρ H src J) (hD : H D = none)
    (h : Ran Γ F (RT Γ F) (match lcL src g c elt (wipeE σp vs) fuel 0 [] st with | .ok acc st2 => .ok (.lst acc) st2 | _ => .no) ρ st H E Q) :
    ∃ (ρ' : List Addr) (st' : List O) (acc : List T) (accV : List V), Lc Γ F ρ H D ρ' (upd H D (.lst [])) st' accV ∧ RVs Γ (D :: F) ρ' (upd H D (.lst [])) acc accV ∧ RE Γ (D :: F) ρ' (upd H D (.lst [])) (wipeE σp vs) (wipe σ vs) ∧ SrcR Γ (D :: F) ρ' (upd H D (.lst [])) src J ∧ LcEnd Γ F ρ H D (lcL src g c elt (wipeE σp vs) fuel 0 acc st') Q := by
  have hF : ∀ a ∈ D :: F, a ∈ F ∨ H a = none := fun a z => (List.mem_cons.mp z).elim (fun e => .inr (by rw [e]; exact hD)) .inl
  have hk : KeepW F ρ H (upd H D (.lst [])) := Keep.w (Same.keep (Same.upd hD))
  refine ⟨ρ, st, [], [], Lc.start s hD, rfl, (re.wipe vs).grow hF .refl hk, sr.grow hF .refl hk, ?_⟩
  cases q : lcL src g c elt (wipeE σp vs) fuel 0 [] st with
  | no => rw [q] at h; exact h
  | exc e st1 => rw [q] at h; exact h
  | ok acc st1 =>
    rw [q] at h
    intro ρ' H' accV l r
    obtain ⟨p, rv⟩ := l.done s hD r
    exact h _ _ _ p rv
variable {W : WX}
theorem tLc_imp {wi : TI} {it : M Src} {g : AG} {gt : TG} {c : M Bool} {tt : TT} {elt : ME} {te : TE} {vs : List Nat} {σ : L2.St} {H : Hp} {Q : VK} (hi : ∀ σ H R, tIv Γ it W σ H R → wi σ H R)
    (hg : ∀ v σ H Q, tGv Γ g vs v σ H Q → gt v σ H Q) (ht : ∀ σ H Q, tTv Γ c W0 σ H Q → tt σ H Q) (he : ∀ σ H Q, tEv Γ elt W0 σ H Q → te σ H Q) (h : tEv Γ (mLc it vs g c elt) W σ H Q) : tLc wi gt tt te vs σ H Q := by
  obtain ⟨σp, F, ρ, st, s, re, h⟩ := h
  refine hi _ _ _ ⟨σp, F, ρ, st, s, re, Ran.bind s h fun src st1 J H1 ρ1 _ s1 p1 r1 h1 => fun D hD => ⟨_, ⟨fuel, lc_begin s1 (re.post s p1) r1 hD h1⟩, fun i m H w => lc_loop hD hg ht he i m H w⟩⟩
theorem sE_lc {tg iter elt : Expr} {ifs : List Expr} {scope : Scope} {own : List (Str × Nat)} {pos : Pos} {it : M Src} {g : AG} {c : M Bool} {m : ME} {vs : List Nat} (hi : SI Γ X W tg iter it) (hN : X.N.Nodup) (ok : BlkOk X.N X.env.scope scope own)
    (hg : ∀ (s : Shared) (H : Hp) (C : Addr) (cl : List (Str × Addr)) (fp : List Addr), SG Γ (X.blk s H scope (compEnvC scope cl C X.env) fp) vs tg g)
    (ht : ∀ (s : Shared) (H : Hp) (C : Addr) (cl : List (Str × Addr)) (fp : List Addr), STs Γ (X.blk s H scope (compEnvC scope cl C X.env) fp) ifs c)
    (he : ∀ (s : Shared) (H : Hp) (C : Addr) (cl : List (Str × Addr)) (fp : List Addr), SE Γ (X.blk s H scope (compEnvC scope cl C X.env) fp) W0 elt m)
    (hv : own.map (·.2) = vs := by rfl) (hc : X.calm = true := by rfl) (hs : ∀ x, foldedSetIterable iter X.env x = pure x := by intro _; rfl) : SE Γ X W (.ListComp elt [⟨tg, iter, ifs, 0⟩] scope pos) (mLc it vs g c m) :=
  (pe_lc hc hN hi ok hg ht he hs).imp fun σ H Q h => by
    subst hv
    exact tLc_imp (fun _ _ _ z => z) (fun _ _ _ _ z => z) (fun _ _ _ z => z) (fun _ _ _ z => z) h
/-- name = [..] -/
theorem sS_setLc (i : Nat) {y : Str} {py : Pos} {tg iter elt : Expr} {ifs : List Expr} {scope : Scope} {own : List (Str × Nat)} {pos spos : Pos} {it : M Src} {g : AG} {c : M Bool} {m : ME} {vs : List Nat} (hi : SI Γ X W tg iter it) (hN : X.N.Nodup) (ok : BlkOk X.N X.env.scope scope own)
    (hg : ∀ (s : Shared) (H : Hp) (C : Addr) (cl : List (Str × Addr)) (fp : List Addr), SG Γ (X.blk s H scope (compEnvC scope cl C X.env) fp) vs tg g)
    (ht : ∀ (s : Shared) (H : Hp) (C : Addr) (cl : List (Str × Addr)) (fp : List Addr), STs Γ (X.blk s H scope (compEnvC scope cl C X.env) fp) ifs c)
    (he : ∀ (s : Shared) (H : Hp) (C : Addr) (cl : List (Str × Addr)) (fp : List Addr), SE Γ (X.blk s H scope (compEnvC scope cl C X.env) fp) W0 elt m)
    (hsw : swapsWith (.ListComp elt [⟨tg, iter, ifs, 0⟩] scope pos) (some (.Name y py)) spos.line X.env = pure true := by exact sw_true rfl rfl rfl (by decide +kernel))
    (hy : X.N[i]? = some y := by rfl) (hyl : X.env.scope.names.lookup y = some .local := by rfl)
    (hv : own.map (·.2) = vs := by rfl) (hc : X.calm = true := by rfl) (hs : ∀ x, foldedSetIterable iter X.env x = pure x := by intro _; rfl) : SS Γ X W (.Assign [.Name y py] (.ListComp elt [⟨tg, iter, ifs, 0⟩] scope pos) spos) (mSet i (mLc it vs g c m)) :=
  (ps_setLc hc hN hy hyl hsw hi ok hg ht he hs).imp fun D σ H ⟨σp, F, ρ, st, s, re, h⟩ => by
    subst hv
    exact tLc_imp (W := W) (fun _ _ _ z => z) (fun _ _ _ _ z => z) (fun _ _ _ z => z) (fun _ _ _ z => z) ⟨σp, F, ρ, st, s, re, RanS.lift s re h fun t st1 v H1 ρ1 s1 p1 re1 r1 h1 => h1 _ H1 ρ1 (.refl s1.rs) (re1.set r1)⟩
end
end WR
namespace WR
open PySem PySem.Spec PyProof.Rows L2

section
variable {Γ : Gam} {X : Cx} {W : WX}
/-! ### a < b < c, -a -/
def mChain (f g : T → T → List O → Rs T) (a b c : ME) : ME := fun σ st => (a σ st).bind fun x st1 => (b σ st1).bind fun y st2 => (f x y st2).bind fun k st3 => match k with
  | .bl true => (c σ st3).bind fun z st4 => g y z st4
  | .bl false => .ok (.bl false) st3
  | _ => .no
theorem OpOk.ends {r : R2} {f : T → T → List O → Rs T} (hf : OpOk Γ r f) {F ρ : List Addr} {st : List O} {H : Hp} {x y : V} {a b : T} {Q : VK} {Q' : T → List O → Rs T} {E : XK} {R : VK} (s : SR Γ F ρ H st) (ra : RV Γ F ρ H a x) (rb : RV Γ F ρ H b y)
    (h : Ran Γ F (RT Γ F) ((f a b st).bind Q') ρ st H E R) (hk : ∀ t st1 v H1 ρ1, SR Γ F ρ1 H1 st1 → Post Γ F ρ H ρ1 st1 H1 → RV Γ F ρ1 H1 t v → Ran Γ F (RT Γ F) (Q' t st1) ρ1 st1 H1 E R → Q v H1) : r x y H Q :=
  hf F ρ st H x y a b Q E s ra rb (Ran.bind s h fun t st1 v H1 ρ1 _ s1 p1 r1 h1 => hk t st1 v H1 ρ1 s1 p1 r1 h1)
theorem sE_chain {op op' : CmpOp} {r r' : R2} {f g : T → T → List O → Rs T} {e d l : Expr} {a b c : ME} {pos : Pos} (ho : OpR X (compareOp op) r) (ho' : OpR X (compareOp op') r') (hf : OpOk Γ r f) (hg : OpOk Γ r' g) (ha : SE Γ X W e a) (hb : SE Γ X W d b) (hc : SE Γ X W l c)
    (hm : lastMarks [op, op'] [d, l] = false := by with_unfolding_all rfl) : SE Γ X W (.Compare e [op, op'] [d, l] pos) (mChain f g a b c) :=
  (pe_chain ho ho' ha hb hc hm).imp fun σ H Q ⟨σp, F, ρ, st, s, re, h⟩ => ⟨σp, F, ρ, st, s, re, Ran.bind s h fun t st1 v H1 ρ1 _ s1 p1 r1 h1 => ⟨σp, F, ρ1, st1, s1, re.post s p1, Ran.bind s1 h1 fun t2 st2 v2 H2 ρ2 _ s2 p2 r2 h2 =>
    OpOk.ends hf s2 (p2.rv s1.rs r1) r2 h2 fun k st3 v3 H3 ρ3 s3 p3 r3 h3 => by
      cases k with
      | bl k =>
        refine ⟨k, r3, ?_⟩
        cases k with
        | false => exact iteF (Ran.done s3 h3 rfl)
        | true => exact iteT ⟨σp, F, ρ3, st3, s3, ((re.post s p1).post s1 p2).post s2 p3, Ran.bind s3 h3 fun t4 st4 v4 H4 ρ4 _ s4 p4 r4 h4 => hg _ _ _ _ _ _ _ _ _ _ s4 (p4.rv s3.rs (p3.rv s2.rs r2)) r4 h4⟩
      | _ => exact h3.elim⟩⟩
def mNeg (a : ME) : ME := fun σ st => (a σ st).bind fun x st1 => match x with
  | .int i => .ok (.int (-i)) st1
  | _ => .no
theorem sE_neg {e : Expr} {a : ME} {pos : Pos} (ha : SE Γ X W e a) : SE Γ X W (.UnaryOp .USub e pos) (mNeg a) :=
  (pe_un un_neg ha).imp fun σ H Q ⟨σp, F, ρ, st, s, re, h⟩ => ⟨σp, F, ρ, st, s, re, Ran.bind s h fun t st1 v H1 ρ1 _ s1 p1 r1 h1 => by
    cases t with
    | int i => exact ⟨i, r1, Ran.done s1 h1 rfl⟩
    | _ => exact h1.elim⟩

/-! ### built-in functions of one list or number -/
def one1 : List T → Option T
  | [t] => some t
  | _ => none
theorem one1_ok {F ρ : List Addr} {H : Hp} {ts : List T} {vs : List V} {t : T} (e : one1 ts = some t) (r : RVs Γ F ρ H ts vs) : ∃ v, vs = [v] ∧ RV Γ F ρ H t v := by
  unfold one1 at e
  split at e
  · cases e
    obtain ⟨v, _, rfl, q1, rfl⟩ := r
    exact ⟨v, rfl, q1⟩
  · cases e
def lenB : MF := fun ts st => match one1 ts with
  | some t => match t with
    | .str x => match sizeOk x.length with
      | true => .ok (.int x.length) st
      | false => .no
    | .scr ns => .ok (.int ns.length) st
    | t => match seqT st t with
      | some xs => .ok (.int xs.length) st
      | none => match dctT st t with
        | some (ks, _) => .ok (.int ks.length) st
        | none => .no
  | none => .no
def rLenD : List V → Hp → VK → Prop := fun xs H Q => ∃ (p : Addr) (kvs : List (Key × V)), xs = [.ref p] ∧ Rd H p (.dK kvs) ∧ Q (.int (kvs.length : Nat)) H
theorem call_lenDK : CallR X (.builtin "len") rLenD := by
  intro pins s σ H xs us Q I r h
  obtain ⟨p, kvs, rfl, hd, q⟩ := h
  obtain ⟨u, rfl, ru⟩ := vals1 r
  cases (show u = Value.ref p from ru)
  exact d_len I hd fun t s' I' => ⟨.int (kvs.length : Nat), H, I', ⟨t, rfl⟩, q⟩
def rLenA (K : PySem.W.Frag) : List V → Hp → VK → Prop := fun xs H Q => (∃ p ys, xs = [.ref p] ∧ (SqL K H p ys ∨ SqT K H p ys) ∧ Q (.int ys.length) H) ∨ (∃ z, xs = [.str z] ∧ z.length ≤ sizeLine ∧ Q (.int z.length) H) ∨ rLenD xs H Q
theorem call_lenA : CallR X (.builtin "len") (rLenA X.K) := call_len_seq.or (call_len_str.or call_lenDK)
theorem ok_len : CallOk Γ (rLenA Γ.K) lenB := fun F ρ st H xs ts Q E s r h => by
  unfold lenB at h
  split at h
  · rename_i t e
    obtain ⟨v, rfl, rt⟩ := one1_ok e r
    split at h
    · rename_i x
      split at h
      · rename_i e2
        exact .inr (.inl ⟨x, by rw [show v = _ from rt], sizeOk_le e2, Ran.done s h rfl⟩)
      · exact h.elim
    · rename_i ns
      obtain ⟨p, rfl, g⟩ := rt
      have sq := scr_sq (a := p) (show RV Γ F ρ H (.scr ns) (.ref p) from ⟨_, rfl, g⟩)
      exact .inl ⟨_, _, rfl, .inl sq, by rw [List.length_map]; exact Ran.done s h rfl⟩
    · split at h
      · rename_i ys e2
        obtain ⟨p, vs, rfl, h1, h2⟩ := seqT_ok s.rs e2 rt
        exact .inl ⟨p, vs, rfl, h1, by rw [← h2.length]; exact Ran.done s h rfl⟩
      · split at h
        · rename_i ks ys e2
          obtain ⟨p, kvs, rfl, h1, h2, h3⟩ := dctT_ok s.rs e2 rt
          exact .inr (.inr ⟨p, kvs, rfl, h1, by
            have : ks.length = kvs.length := by rw [← h2, List.length_map]
            rw [← this]; exact Ran.done s h rfl⟩)
        · exact h.elim
  · exact h.elim
/-- a list of bools -/
def blsT : List T → Option (List Bool)
  | [] => some []
  | .bl b :: r => match blsT r with
    | some bs => some (b :: bs)
    | none => none
  | _ => none
theorem blsT_ok {F ρ : List Addr} {H : Hp} : ∀ {xs : List T} {vs : List V} {bs : List Bool}, blsT xs = some bs → RVs Γ F ρ H xs vs → vs = bs.map V.bl
  | [], _, _, e, r => by cases e; exact r
  | .bl b :: xs, _, bs, e, r => by
    obtain ⟨v, vr, rfl, r1, r2⟩ := r
    simp only [blsT] at e
    cases q : blsT xs with
    | none => rw [q] at e; cases e
    | some cs => rw [q] at e; cases e; rw [show v = _ from r1, blsT_ok q r2]; rfl
  | .non :: _, _, _, e, _ => by cases e
  | .int _ :: _, _, _, e, _ => by cases e
  | .str _ :: _, _, _, e, _ => by cases e
  | .tup _ :: _, _, _, e, _ => by cases e
  | .lst _ :: _, _, _, e, _ => by cases e
  | .scr _ :: _, _, _, e, _ => by cases e
  | .dct _ _ :: _, _, _, e, _ => by cases e
  | .ins _ _ _ :: _, _, _, e, _ => by cases e
  | .exc _ _ _ :: _, _, _, e, _ => by cases e
  | .fn _ :: _, _, _, e, _ => by cases e
  | .ty _ :: _, _, _, e, _ => by cases e
  | .cls _ :: _, _, _, e, _ => by cases e
  | .ref _ :: _, _, _, e, _ => by cases e
def anyB (all : Bool) : MF := fun ts st => match one1 ts with
  | some t => match lstT st t with
    | some xs => match blsT xs with
      | some bs => .ok (.bl (if all then bs.all id else bs.any id)) st
      | none => .no
    | none => .no
  | none => .no
theorem ok_all : CallOk Γ (rAll Γ.K) (anyB true) := fun F ρ st H xs ts Q E s r h => by
  unfold anyB at h
  split at h
  · rename_i t e
    obtain ⟨v, rfl, rt⟩ := one1_ok e r
    split at h
    · rename_i ys e2
      obtain ⟨p, vs, rfl, h1, h2⟩ := lstT_ok s.rs e2 rt
      split at h
      · rename_i bs e3
        rw [blsT_ok e3 h2] at h1
        exact ⟨p, bs, rfl, .of h1, Ran.done s h rfl⟩
      · exact h.elim
    · exact h.elim
  · exact h.elim
theorem ok_any : CallOk Γ (rAny Γ.K) (anyB false) := fun F ρ st H xs ts Q E s r h => by
  unfold anyB at h
  split at h
  · rename_i t e
    obtain ⟨v, rfl, rt⟩ := one1_ok e r
    split at h
    · rename_i ys e2
      obtain ⟨p, vs, rfl, h1, h2⟩ := lstT_ok s.rs e2 rt
      split at h
      · rename_i bs e3
        rw [blsT_ok e3 h2] at h1
        exact ⟨p, bs, rfl, .of h1, Ran.done s h rfl⟩
      · exact h.elim
    · exact h.elim
  · exact h.elim
def absB : MF := fun ts st => match oneInt ts with
  | some i => .ok (.int (if i < 0 then -i else i)) st
  | none => .no
theorem ok_abs : CallOk Γ (fun xs H Q => ∃ i, xs = [.int i] ∧ Q (.int (if i < 0 then -i else i)) H) absB := fun F ρ st H xs ts Q E s r h => by
  unfold absB at h
  split at h
  · rename_i i e
    exact ⟨i, oneInt_ok e r, Ran.done s h rfl⟩
  · exact h.elim
def intB : MF := fun ts st => match oneInt ts with
  | some i => .ok (.int i) st
  | none => .no
theorem ok_int1 : CallOk Γ (fun xs H Q => (∃ i, xs = [.int i] ∧ Q (.int i) H) ∨ ∃ k, xs = [.bl k] ∧ Q (.int (if k then 1 else 0)) H) intB := fun F ρ st H xs ts Q E s r h => by
  unfold intB at h
  split at h
  · rename_i i e
    exact .inl ⟨i, oneInt_ok e r, Ran.done s h rfl⟩
  · exact h.elim
def twoInt : List T → Option (Int × Int)
  | [.int i, .int j] => some (i, j)
  | _ => none
theorem twoInt_ok {F ρ : List Addr} {H : Hp} {ts : List T} {vs : List V} {i j : Int} (e : twoInt ts = some (i, j)) (r : RVs Γ F ρ H ts vs) : vs = [.int i, .int j] := by
  unfold twoInt at e
  split at e
  · cases e
    obtain ⟨v, _, rfl, q1, w, _, rfl, q2, rfl⟩ := r
    rw [show v = _ from q1, show w = _ from q2]
  · cases e
def minB : MF := fun ts st => match twoInt ts with
  | some (i, j) => .ok (.int (if j < i then j else i)) st
  | none => .no
def maxB : MF := fun ts st => match twoInt ts with
  | some (i, j) => .ok (.int (if j > i then j else i)) st
  | none => .no
theorem ok_min : CallOk Γ (fun xs H Q => ∃ i j, xs = [.int i, .int j] ∧ Q (.int (if j < i then j else i)) H) minB := fun F ρ st H xs ts Q E s r h => by
  unfold minB at h
  split at h
  · rename_i i j e
    exact ⟨i, j, twoInt_ok e r, Ran.done s h rfl⟩
  · exact h.elim
theorem ok_max : CallOk Γ (fun xs H Q => ∃ i j, xs = [.int i, .int j] ∧ Q (.int (if j > i then j else i)) H) maxB := fun F ρ st H xs ts Q E s r h => by
  unfold maxB at h
  split at h
  · rename_i i j e
    exact ⟨i, j, twoInt_ok e r, Ran.done s h rfl⟩
  · exact h.elim
/-- list(x): a new list, seen as it stands; the one that will be changed -/
def listB : MF := fun ts st => match one1 ts with
  | some t => match seqT st t with
    | some xs => .ok (.lst xs) st
    | none => .no
  | none => .no
def listM : MF := fun ts st => match one1 ts with
  | some t => match seqT st t with
    | some xs => .ok (.ref st.length) (st ++ [.lst xs])
    | none => .no
  | none => .no
theorem ok_list : CallOk Γ (fun xs H Q => ∃ p ys, xs = [.ref p] ∧ (SqL Γ.K H p ys ∨ SqT Γ.K H p ys) ∧ ∀ l, H l = none → Q (.ref l) (upd H l (.lst ys))) listB := fun F ρ st H xs ts Q E s r h => by
  unfold listB at h
  split at h
  · rename_i t e
    obtain ⟨v, rfl, rt⟩ := one1_ok e r
    split at h
    · rename_i ys e2
      obtain ⟨p, vs, rfl, h1, h2⟩ := seqT_ok s.rs e2 rt
      exact ⟨p, vs, rfl, h1, fun l hl => Ran.ends h (.laid s.rs hl) (RV.lstNew s hl h2)⟩
    · exact h.elim
  · exact h.elim
theorem ok_listM : CallOk Γ (fun xs H Q => ∃ p ys, xs = [.ref p] ∧ (SqL Γ.K H p ys ∨ SqT Γ.K H p ys) ∧ ∀ l, H l = none → Q (.ref l) (upd H l (.lst ys))) listM := fun F ρ st H xs ts Q E s r h => by
  unfold listM at h
  split at h
  · rename_i t e
    obtain ⟨v, rfl, rt⟩ := one1_ok e r
    split at h
    · rename_i ys e2
      obtain ⟨p, vs, rfl, h1, h2⟩ := seqT_ok s.rs e2 rt
      exact ⟨p, vs, rfl, h1, fun l hl => Ran.ends h (.alloc s.rs hl ⟨vs, upd_same, h2.allocs s.rs hl⟩) s.rs.refNew⟩
    · exact h.elim
  · exact h.elim
def tupleB : MF := fun ts st => match one1 ts with
  | some t => match t with
    | .tup xs => .ok (.tup xs) st
    | t => match lstT st t with
      | some xs => .ok (.tup xs) st
      | none => .no
  | none => .no
theorem ok_tuple : CallOk Γ (rTupOf Γ.K) tupleB := fun F ρ st H xs ts Q E s r h => by
  unfold tupleB at h
  split at h
  · rename_i t e
    obtain ⟨v, rfl, rt⟩ := one1_ok e r
    split at h
    · rename_i ys
      obtain ⟨p, vs, rfl, h1, h2⟩ := rt
      exact ⟨p, vs, rfl, .inr ⟨tupK_sq h1, Ran.done s h ⟨p, vs, rfl, h1, h2⟩⟩⟩
    · split at h
      · rename_i ys e2
        obtain ⟨p, vs, rfl, h1, h2⟩ := lstT_ok s.rs e2 rt
        exact ⟨p, vs, rfl, .inl ⟨.of h1, fun l ob hl ho => Ran.ends h (.laid s.rs hl) (RV.tupNew s hl ho h2)⟩⟩
      · exact h.elim
  · exact h.elim

/-! ### changes of one's own lists -/
theorem Post.lstSet {F ρ : List Addr} {H : Hp} {st : List O} {n : Nat} {a : Addr} {vs ws : List V} {ys : List T} (s : SR Γ F ρ H st) (e : ρ[n]? = some a) (ha : H a = some (.lst vs)) (r : RVs Γ F ρ H ys ws) : Post Γ F ρ H ρ (st.set n (.lst ys)) (upd H a (.lst ws)) := by
  have k : Keep ρ H (upd H a (.lst ws)) := Keep.write (List.mem_of_getElem? e) fun _ z => by rw [ha] at z; cases z; exact id
  exact Post.write s.rs e ⟨ws, upd_same, RVs.grow (fun _ z => .inl z) .refl (Keep.w k) _ _ r⟩
/-- one's own list -/
def ownL (st : List O) : T → Option (Nat × List T)
  | .ref n => match st[n]? with
    | some (.lst xs) => some (n, xs)
    | _ => none
  | _ => none
theorem ownL_ok {F ρ : List Addr} {H : Hp} {st : List O} {a : T} {x : V} {n : Nat} {xs : List T} (s : RS Γ F ρ H st) (e : ownL st a = some (n, xs)) (r : RV Γ F ρ H a x) : ∃ p vs, x = .ref p ∧ ρ[n]? = some p ∧ H p = some (.lst vs) ∧ RVs Γ F ρ H xs vs := by
  cases a with
  | ref m =>
    obtain ⟨p, rfl, h1⟩ := r
    simp only [ownL] at e
    cases q : st[m]? with
    | none => rw [q] at e; cases e
    | some o =>
      cases o with
      | lst ys => rw [q] at e; cases e; obtain ⟨vs, h3, h2⟩ := RO.list (s.at_ n _ p q h1); exact ⟨p, vs, rfl, h1, h3, h2⟩
      | _ => rw [q] at e; cases e
  | _ => simp [ownL] at e
def MetOk (Γ : Gam) (r : V → List V → Hp → VK → Prop) (f : T → List T → List O → Rs T) : Prop :=
  ∀ (F ρ : List Addr) (st : List O) (H : Hp) (x : V) (xs : List V) (t : T) (ts : List T) (Q : VK) (E : XK), SR Γ F ρ H st → RV Γ F ρ H t x → RVs Γ F ρ H ts xs → Ran Γ F (RT Γ F) (f t ts st) ρ st H E Q → r x xs H Q
def mMet (ty : T → List O → Bool) (f : T → List T → List O → Rs T) (o : ME) (args : M (List T)) : ME := fun σ st => (o σ st).bind fun x st1 => match ty x st1 with
  | true => (args σ st1).bind fun xs st2 => f x xs st2
  | false => .no
def TyOk (Γ : Gam) (X : Cx) (T' : String) (ty : T → List O → Bool) : Prop := ∀ (F ρ : List Addr) (st : List O) (H : Hp) (x : V) (t : T), SR Γ F ρ H st → RV Γ F ρ H t x → ty t st = true → tyV X.K T' x H
def isL (t : T) (st : List O) : Bool := (lstT st t).isSome
theorem ty_list : TyOk Γ X "list" isL := fun F ρ st H x t s r e => by
  unfold isL at e
  cases q : lstT st t with
  | none => rw [q] at e; cases e
  | some xs =>
    obtain ⟨p, vs, rfl, h1, h2⟩ := lstT_ok s.rs q r
    exact .inl ⟨rfl, vs, .of h1⟩
theorem sE_met {o e : Expr} {es : List Expr} {name : Str} {apos cpos : Pos} {T' id : String} {r : V → List V → Hp → VK → Prop} {ty : T → List O → Bool} {f : T → List T → List O → Rs T} {a : ME} {m : M (List T)} (pa : PlainAttrs T') (slot : Slot T' name id) (hty : typeOf (.builtin id) = pure (.type "method_descriptor")) (hm : MtR X id r) (hf : MetOk Γ r f) (ht : TyOk Γ X T' ty)
    (ho : SE Γ X W o a) (ha : SA Γ X W (e :: es) m) (hbase : attributeBase o name X.env (eval o X.env) = eval o X.env := by rfl)
    (hfew : ((backTo cpos (starEach (e :: es) X.env)).all (fun x => !x.1) && (backToKw cpos (keywordEach [] X.env)).all (fun x => x.1.isSome) && decide ((e :: es).length + ([] : List Keyword).length + (if ([] : List Keyword).isEmpty then 0 else 1) < 30)) = true := by rfl)
    (hline : (apos.endLine == cpos.line) = true := by rfl) (hs : starEach (e :: es) X.env = (false, eval e X.env) :: starEach es X.env := by rfl) (hplain : (backTo cpos (starEach es X.env)).any (·.1) = false := by rfl) : SE Γ X W (.Call (.Attribute o name apos) (e :: es) [] cpos) (mMet ty f a m) :=
  (pe_bm pa slot hty hm ho ha hbase hfew hline hs hplain).imp fun σ H Q ⟨σp, F, ρ, st, s, re, h⟩ => ⟨σp, F, ρ, st, s, re, Ran.bind s h fun t st1 v H1 ρ1 _ s1 p1 r1 h1 => by
    cases q : ty t st1 with
    | false => rw [q] at h1; exact h1.elim
    | true =>
      rw [q] at h1
      exact ⟨ht _ _ _ _ _ _ s1 r1 q, σp, F, ρ1, st1, s1, re.post s p1, Ran.bind s1 h1 fun ts st2 vs H2 ρ2 _ s2 p2 r2 h2 => hf _ _ _ _ _ _ _ _ _ _ s2 (p2.rv s1.rs r1) r2 h2⟩⟩
theorem sE_met0 {o : Expr} {name : Str} {apos cpos : Pos} {T' id : String} {r : V → List V → Hp → VK → Prop} {ty : T → List O → Bool} {f : T → List T → List O → Rs T} {a : ME} (pa : PlainAttrs T') (slot : Slot T' name id) (hty : typeOf (.builtin id) = pure (.type "method_descriptor")) (hm : MtR X id r) (hf : MetOk Γ r f) (ht : TyOk Γ X T' ty)
    (ho : SE Γ X W o a) (hbase : attributeBase o name X.env (eval o X.env) = eval o X.env := by rfl) (hline : (apos.endLine == cpos.line) = true := by rfl) : SE Γ X W (.Call (.Attribute o name apos) [] [] cpos) (mMet ty f a mNil) :=
  (pe_bm0 pa slot hty hm ho hbase hline).imp fun σ H Q ⟨σp, F, ρ, st, s, re, h⟩ => ⟨σp, F, ρ, st, s, re, Ran.bind s h fun t st1 v H1 ρ1 _ s1 p1 r1 h1 => by
    cases q : ty t st1 with
    | false => rw [q] at h1; exact h1.elim
    | true =>
      rw [q] at h1
      exact ⟨ht _ _ _ _ _ _ s1 r1 q, hf F ρ1 st1 H1 v [] t [] Q _ s1 r1 (show RVs Γ F ρ1 H1 [] [] from rfl) h1⟩⟩
def appendT (o : T) (ts : List T) (st : List O) : Rs T := match ownL st o, one1 ts with
  | some (n, xs), some y => match decide (xs.length < 16777216) with
    | true => .ok .non (st.set n (.lst (xs ++ [y])))
    | false => .no
  | _, _ => .no
theorem ok_append : MetOk Γ rAppend appendT := fun F ρ st H x xs t ts Q E s r rs h => by
  unfold appendT at h
  split at h
  · rename_i n ys y e1 e2
    split at h
    · rename_i e3
      obtain ⟨p, vs, rfl, h1, h2, h3⟩ := ownL_ok s.rs e1 r
      obtain ⟨v, rfl, rv⟩ := one1_ok e2 rs
      exact ⟨p, vs, v, rfl, rfl, h2, by rw [← h3.length, sizeLine_eq]; exact of_decide_eq_true e3, Ran.ends h (.lstSet s h1 h2 (h3.snoc rv)) rfl⟩
    · exact h.elim
  · exact h.elim
def popAtT (o : T) (ts : List T) (st : List O) : Rs T := match ownL st o, oneInt ts with
  | some (n, xs), some i => match decide (-(2 ^ 63) ≤ i) && decide (i < 2 ^ 63) with
    | true => match seqIndex? i xs.length with
      | some k => match xs[k]? with
        | some y => .ok y (st.set n (.lst (xs.eraseIdx k)))
        | none => .no
      | none => .no
    | false => .no
  | _, _ => .no
theorem ok_popAt : MetOk Γ rPopAt popAtT := fun F ρ st H x xs t ts Q E s r rs h => by
  unfold popAtT at h
  split at h
  · rename_i n ys i e1 e2
    split at h
    · rename_i e3
      split at h
      · rename_i k e4
        split at h
        · rename_i y e5
          obtain ⟨p, vs, rfl, h1, h2, h3⟩ := ownL_ok s.rs e1 r
          obtain ⟨f1, f2⟩ := Bool.and_eq_true_iff.mp e3
          obtain ⟨v, e6, rv⟩ := h3.get e5
          have po := Post.lstSet s h1 h2 (h3.eraseIdx k)
          exact ⟨p, vs, i, k, v, rfl, oneInt_ok e2 rs, h2, of_decide_eq_true f1, of_decide_eq_true f2, by rw [← h3.length]; exact e4, e6, Ran.ends h po (po.rv s.rs rv)⟩
        · exact h.elim
      · exact h.elim
    · exact h.elim
  · exact h.elim
/-- xs[i] = v -/
def setT (o i v : T) (st : List O) : Option (List O) := match ownL st o, i with
  | some (n, xs), .int k => match ixN xs.length k with
    | some j => some (st.set n (.lst (xs.set j v)))
    | none => none
  | _, _ => none
def mSetIx (o i v : ME) : MS := fun σ st => (v σ st).bindS σ fun y st1 => (o σ st1).bindS σ fun x st2 => (i σ st2).bindS σ fun k st3 => match setT x k y st3 with
  | some st4 => .ok (.nx σ) st4
  | none => .no
theorem sS_setIx {o i e : Expr} {a b c : ME} {p2 pos : Pos} (ho : SE Γ X W o a) (hi : SE Γ X W i b) (he : SE Γ X W e c)
    (ha : ∀ v, assign (.Subscript o i p2) X.env v = (do
      let ov ← holding [v] (eval o X.env)
      let iv ← holding [v, ov] (eval i X.env)
      standAt p2
      holding [v, ov, iv] (setItem ov iv v)
      release [v, ov, iv] []) := by intro _; rfl)
    (hs : swapsWithSole [.Subscript o i p2] e pos.line X.env = pure false := by rfl) (hw : swappedStores [.Subscript o i p2] e X.env = pure none := by rfl) (h1 : (assignEach [.Subscript o i p2] X.env).map (·.2) = [assign (.Subscript o i p2) X.env] := by rfl) :
    SS Γ X W (.Assign [.Subscript o i p2] e pos) (mSetIx a b c) :=
  (ps_asg he (pg_sub ho hi set_list ha) hs hw h1).imp fun D σ H ⟨σp, F, ρ, st, s, re, h⟩ => ⟨σp, F, ρ, st, s, re, RanS.lift s re h fun y st1 v H1 ρ1 s1 p1 re1 r1 h1 =>
    ⟨σp, F, ρ1, st1, s1, re1, RanS.lift s1 re1 h1 fun x st2 w H2 ρ2 s2 p2 re2 r2 h2 => ⟨σp, F, ρ2, st2, s2, re2, RanS.lift s2 re2 h2 fun k st3 u H3 ρ3 s3 p3 re3 r3 h3 => by
      cases q : setT x k y st3 with
      | none => rw [q] at h3; exact h3.elim
      | some st4 =>
        rw [q] at h3
        unfold setT at q
        split at q
        · rename_i n xs kk e1
          split at q
          · rename_i j e2
            cases q
            obtain ⟨p, vs, rfl, g1, g2, g3⟩ := ownL_ok s3.rs e1 (p3.rv s2.rs r2)
            have po := Post.lstSet s3 g1 g2 (g3.set j (p3.rv s2.rs (p2.rv s1.rs r1)))
            exact ⟨p, vs, kk, j, rfl, r3, g2, by rw [← g3.length]; exact e2, h3 σ _ ρ3 po (re3.post s3 po)⟩
          · cases q
        · cases q⟩⟩⟩
end
end WR
namespace WR
open PySem PySem.Spec PyProof.Rows L2
section
variable {Γ : Gam} {F F' ρ ρ' : List Addr} {H H' : Hp} {st st' : List O} {p : Addr}
/-! ### an object that is laid first and filled last -/
theorem hold_F {a : Addr} (hp : H p = none) (z : a ∈ p :: F) : a ∈ F ∨ H a = none := (List.mem_cons.mp z).elim (fun e => .inr (by rw [e]; exact hp)) .inl
theorem SR.hold {o : HO} (s : SR Γ F ρ H st) (hp : H p = none) : SR Γ (p :: F) ρ (upd H p o) st where
  rs := s.rs.grow (fun _ z => hold_F hp z) (Keep.w (Same.keep (Same.upd hp))) fun a _ u e => Same.upd hp a u e
  trk := fun a z => by
    by_cases h : a = p
    · subst h; rw [upd_same]; simp
    · rw [upd_ne h]; exact s.trk a ((List.mem_cons.mp z).resolve_left h)
  dis := fun a z => by
    rcases List.mem_cons.mp z with z | z
    · subst z; exact (s.fresh hp).2
    · exact s.dis a z
theorem RE.hold {o : HO} {σp : Ev} {σ : L2.St} (re : RE Γ F ρ H σp σ) (hp : H p = none) : RE Γ (p :: F) ρ (upd H p o) σp σ := re.grow (fun _ z => hold_F hp z) .refl (Keep.w (Same.keep (Same.upd hp)))
/-- what is no longer held -/
theorem Post.free {o : HO} (hp : H p = none) (ho : ¬ Tu o) (q : Post Γ (p :: F) ρ (upd H p o) ρ' st' H') : Post Γ F ρ H ρ' st' H' where
  grow := by
    obtain ⟨n, e, h⟩ := q.grow
    refine ⟨n, e, fun a ha => ?_⟩
    have := h a ha
    by_cases c : a = p
    · subst c; exact hp
    · rwa [upd_ne c] at this
  keep := fun a u e c => q.keep a u (by rw [upd_ne (ne_of_none e hp)]; exact e) c
  rs := q.rs.grow (fun _ z => .inl (List.mem_cons_of_mem _ z)) KeepW.refl fun _ _ _ e => e
theorem held_at {o : HO} (s : SR Γ F ρ H st) (hp : H p = none) (q : Post Γ (p :: F) ρ (upd H p o) ρ' st' H') : H' p = some o ∧ p ∉ ρ' := by
  have h1 : p ∉ ρ := (s.fresh hp).2
  refine ⟨q.keep p o upd_same (.inl h1), fun z => ?_⟩
  rcases q.grow.mem z with z | z
  · exact h1 z
  · rw [upd_same] at z; cases z
theorem fill_keep {o o' : HO} (ho : ¬ Tu o) (e : H' p = some o) : KeepW (p :: F) ρ' H' (upd H' p o') := fun a u e1 c => by
  have : a ≠ p := fun z => by
    subst z
    rcases c with c | c
    · exact c.1 List.mem_cons_self
    · rw [e] at e1; cases e1; exact ho c
  rw [upd_ne this]; exact e1
theorem Post.fill {o o' : HO} (s : SR Γ F ρ H st) (hp : H p = none) (ho : ¬ Tu o) (q : Post Γ (p :: F) ρ (upd H p o) ρ' st' H') : Post Γ F ρ H ρ' st' (upd H' p o') where
  grow := (q.free hp ho).grow
  keep := fun a u e c => by
    rw [upd_ne (ne_of_none e hp)]
    exact (q.free hp ho).keep a u e c
  rs := q.rs.grow (fun _ z => .inl (List.mem_cons_of_mem _ z)) (fill_keep ho (held_at s hp q).1) fun a h u e => by
    rw [upd_ne (fun z : a = p => (held_at s hp q).2 (z ▸ h))]; exact e
theorem RVs.fill {o o' : HO} (s : SR Γ F ρ H st) (hp : H p = none) (ho : ¬ Tu o) (q : Post Γ (p :: F) ρ (upd H p o) ρ' st' H') {ts : List T} {vs : List V} (r : RVs Γ (p :: F) ρ' H' ts vs) : RVs Γ F ρ' (upd H' p o') ts vs :=
  RVs.grow (fun _ z => .inl (List.mem_cons_of_mem _ z)) .refl (fill_keep ho (held_at s hp q).1) _ _ r
theorem RX.less {e : Ex} {cls : Value} {d : Option Addr} (hF : ∀ a ∈ F', a ∈ F) (r : RX Γ F ρ H e cls d) : RX Γ F' ρ H e cls d := by
  obtain ⟨e1, r⟩ := r
  refine ⟨e1, ?_⟩
  rcases r with ⟨a, b, c⟩ | ⟨dd, fvs, a, b, c, e, f, g⟩
  · exact .inl ⟨a, b, RVs.grow (fun _ z => .inl (hF _ z)) .refl KeepW.refl _ _ c⟩
  · exact .inr ⟨dd, fvs, a, fun z => b (hF _ z), c, e, f, RVs.grow (fun _ z => .inl (hF _ z)) .refl KeepW.refl _ _ g⟩
end
/-! ### what is held becomes one's own -/
section
variable {Γ : Gam} {F F' ρ ρ' : List Addr} {H H' : Hp} {st st' : List O} {p : Addr}
def Mv (F ρ F' ρ' : List Addr) (H : Hp) : Prop := (∀ a, a ∈ F' ∨ a ∈ ρ' → a ∈ F ∨ a ∈ ρ ∨ H a = none) ∧ ∀ (n : Nat) (a : Addr), ρ[n]? = some a → ρ'[n]? = some a
theorem Mv.out (m : Mv F ρ F' ρ' H) {a : Addr} (h : H a ≠ none) (n1 : a ∉ F) (n2 : a ∉ ρ) : a ∉ F' ∧ a ∉ ρ' := ⟨fun z => (m.1 a (.inl z)).elim n1 fun z => z.elim n2 h, fun z => (m.1 a (.inr z)).elim n1 fun z => z.elim n2 h⟩
mutual
theorem RV.move (m : Mv F ρ F' ρ' H) (k : KeepW F ρ H H') : ∀ (x : T) (v : V), RV Γ F ρ H x v → RV Γ F' ρ' H' x v
  | .non, _, h => h
  | .bl _, _, h => h
  | .int _, _, h => h
  | .str _, _, h => h
  | .fn _, _, h => h
  | .ty _, _, h => h
  | .cls _, _, h => h
  | .tup xs, v, h => by
    obtain ⟨a, vs, rfl, h1, h2⟩ := h
    exact ⟨a, vs, rfl, h1.imp (fun ⟨o, e0, h1⟩ => ⟨o, e0, k a _ h1 (.inr True.intro)⟩) id, RVs.move m k xs vs h2⟩
  | .lst xs, v, h => by
    obtain ⟨a, vs, rfl, n1, n2, h1, h2⟩ := h
    obtain ⟨g1, g2⟩ := m.out (by rw [h1]; simp) n1 n2
    exact ⟨a, vs, rfl, g1, g2, k a _ h1 (.inl ⟨n1, n2⟩), RVs.move m k xs vs h2⟩
  | .scr ns, v, h => by
    obtain ⟨a, rfl, h⟩ := h
    refine ⟨a, rfl, h.imp (fun ⟨n1, n2, h1⟩ => ?_) id⟩
    obtain ⟨g1, g2⟩ := m.out (Rd.has h1) n1 n2
    exact ⟨g1, g2, Rd.keep h1 k n1 n2⟩
  | .dct ks xs, v, h => by
    obtain ⟨a, kvs, rfl, n1, n2, h1, h3, h2⟩ := h
    obtain ⟨g1, g2⟩ := m.out (Rd.has h1) n1 n2
    exact ⟨a, kvs, rfl, g1, g2, Rd.keep h1 k n1 n2, h3, RVs.move m k xs _ h2⟩
  | .ins c fs xs, v, h => by
    obtain ⟨a, dx, fvs, rfl, n1, n2, h1, h3, h2⟩ := h
    obtain ⟨g1, g2⟩ := m.out (by rw [h1]; simp) n1 n2
    exact ⟨a, dx, fvs, rfl, g1, g2, k a _ h1 (.inl ⟨n1, n2⟩), h3, RVs.move m k xs _ h2⟩
  | .exc c fs xs, v, h => by
    obtain ⟨a, d, rfl, n1, n2, h1, h2⟩ := h
    obtain ⟨g1, g2⟩ := m.out (by rw [h1]; simp) n1 n2
    refine ⟨a, d, rfl, g1, g2, k a _ h1 (.inl ⟨n1, n2⟩), ?_⟩
    rcases h2 with ⟨e1, e2, h2⟩ | ⟨dd, fvs, e1, m1, m2, h4, h3, h2⟩
    · exact .inl ⟨e1, e2, RVs.move m k xs _ h2⟩
    · obtain ⟨g3, g4⟩ := m.out (by rw [h4]; simp) m1 m2
      exact .inr ⟨dd, fvs, e1, g3, g4, k dd _ h4 (.inl ⟨m1, m2⟩), h3, RVs.move m k xs _ h2⟩
  | .lam n, v, h => by
    obtain ⟨a, c, rfl, n1, n2, h1, n3, n4, h2⟩ := h
    obtain ⟨g1, g2⟩ := m.out (by rw [h1]; simp) n1 n2
    obtain ⟨g3, g4⟩ := m.out (by rw [h2]; simp) n3 n4
    exact ⟨a, c, rfl, g1, g2, k a _ h1 (.inl ⟨n1, n2⟩), g3, g4, k c _ h2 (.inl ⟨n3, n4⟩)⟩
  | .ref n, v, h => by
    obtain ⟨a, rfl, h1⟩ := h
    exact ⟨a, rfl, m.2 n a h1⟩
theorem RVs.move (m : Mv F ρ F' ρ' H) (k : KeepW F ρ H H') : ∀ (xs : List T) (vs : List V), RVs Γ F ρ H xs vs → RVs Γ F' ρ' H' xs vs
  | [], _, h => h
  | x :: xs, _, h => by
    obtain ⟨v, r, rfl, h1, h2⟩ := h
    exact ⟨v, r, rfl, RV.move m k x v h1, RVs.move m k xs r h2⟩
end
theorem RO.move {o : O} {a : Addr} (m : Mv F ρ F' ρ' H) (k : KeepW F ρ H H') (e : ∀ u, H a = some u → H' a = some u) (h : RO Γ F ρ H o a) : RO Γ F' ρ' H' o a := by
  cases o with
  | lst xs => obtain ⟨vs, e1, r⟩ := h; exact ⟨vs, e _ e1, RVs.move m k _ _ r⟩
  | dct ks xs => obtain ⟨vs, e1, e2, r⟩ := h; exact ⟨vs, e _ e1, e2, RVs.move m k _ _ r⟩
  | ins c fs xs => obtain ⟨dx, vs, e1, e2, r⟩ := h; exact ⟨dx, vs, e _ e1, e2, RVs.move m k _ _ r⟩
  | dcq ks xs => obtain ⟨ms, vs, e1, e2, e3, e4, e5, e6, r⟩ := h; exact ⟨ms, vs, e _ e1, e2, e3, e4, fun m' hm => (e5 m' hm).imp (fun ⟨o, e0, z⟩ => ⟨o, e0, k _ _ z (.inr True.intro)⟩) id, e6, RVs.move m k _ _ r⟩
  | hid => obtain ⟨vs, e1⟩ := h; exact ⟨vs, e _ e1⟩
  | tbl n =>
    obtain ⟨e0, ps, e1, e2, e3⟩ := h
    refine ⟨e0, ps, e _ e1, e2, fun pos cv hc => ?_⟩
    obtain ⟨c, c1, c2, c3, c4⟩ := e3 pos cv hc
    obtain ⟨g1, g2⟩ := m.out (by rw [c4]; simp) c2 c3
    exact ⟨c, c1, g1, g2, k c _ c4 (.inl ⟨c2, c3⟩)⟩
theorem mv_own (n : p ∉ ρ) : Mv (p :: F) ρ F (ρ ++ [p]) H := ⟨fun a z => by
  rcases z with z | z
  · exact .inl (List.mem_cons_of_mem _ z)
  · rcases List.mem_append.mp z with z | z
    · exact .inr (.inl z)
    · rw [List.mem_singleton.mp z]; exact .inl List.mem_cons_self, fun n a e => by
  rw [List.getElem?_append_left (List.getElem?_eq_some_iff.mp e).1]; exact e⟩
/-- what was held and is filled is one's own from now on -/
theorem Post.own {o o' : HO} {u : O} (s : SR Γ F ρ H st) (hp : H p = none) (ho : ¬ Tu o) (q : Post Γ (p :: F) ρ (upd H p o) ρ' st' H') (r : RO Γ F (ρ' ++ [p]) (upd H' p o') u p) : Post Γ F ρ H (ρ' ++ [p]) (st' ++ [u]) (upd H' p o') := by
  obtain ⟨e, np⟩ := held_at s hp q
  have k : KeepW (p :: F) ρ' H' (upd H' p o') := fill_keep ho e
  refine ⟨?_, (Post.fill s hp ho q).keep, ⟨by simp [q.rs.len], ?_, fun n ob a e1 e2 => ?_⟩⟩
  · obtain ⟨n, e, h⟩ := (q.free hp ho).grow
    refine ⟨n ++ [p], by rw [e, List.append_assoc], fun a ha => ?_⟩
    rcases List.mem_append.mp ha with ha | ha
    · exact h a ha
    · rw [List.mem_singleton.mp ha]; exact hp
  · rw [List.nodup_append]
    exact ⟨q.rs.nd, by simp, fun a ha b hb => by rw [List.mem_singleton.mp hb]; exact fun z => np (z ▸ ha)⟩
  · by_cases hn : n < st'.length
    · rw [List.getElem?_append_left hn] at e1
      rw [List.getElem?_append_left (by rw [q.rs.len]; exact hn)] at e2
      exact RO.move (mv_own np) k (fun u z => by rw [upd_ne (fun z : a = p => np (z ▸ List.mem_of_getElem? e2))]; exact z) (q.rs.at_ n ob a e1 e2)
    · have hl : n = st'.length := by
        have := (List.getElem?_eq_some_iff.mp e1).1
        simp at this; omega
      subst hl
      rw [List.getElem?_append_right (by rw [q.rs.len]; exact Nat.le_refl _)] at e2
      simp [q.rs.len] at e1 e2
      subst e1; subst e2
      exact r
theorem RVs.own {o o' : HO} (s : SR Γ F ρ H st) (hp : H p = none) (ho : ¬ Tu o) (q : Post Γ (p :: F) ρ (upd H p o) ρ' st' H') {ts : List T} {vs : List V} (r : RVs Γ (p :: F) ρ' H' ts vs) : RVs Γ F (ρ' ++ [p]) (upd H' p o') ts vs :=
  RVs.move (mv_own (held_at s hp q).2) (fill_keep ho (held_at s hp q).1) _ _ r
end

/-! ### dicts: a pair is put -/
def hasK (ks : List Key) (k : Key) : Bool := ks.any fun j => decide (j = k)
def repV (k : Key) (v : T) : List Key → List T → List T
  | j :: ks, t :: ts => (match decide (j = k) with | true => v | false => t) :: repV k v ks ts
  | _, ts => ts
def putT (ks : List Key) (vs : List T) (k : Key) (v : T) : List Key × List T := match hasK ks k with
  | true => (ks, repV k v ks vs)
  | false => (ks ++ [k], vs ++ [v])
def mergeT : List Key → List T → List (Key × T) → List Key × List T
  | ks, vs, [] => (ks, vs)
  | ks, vs, (k, v) :: r => mergeT (putT ks vs k v).1 (putT ks vs k v).2 r
section
variable {Γ : Gam} {F ρ : List Addr} {H : Hp}
theorem repV_ok {k : Key} {v : T} {w : V} (rv : RV Γ F ρ H v w) : ∀ {kvs : List (Key × V)} {vs : List T}, RVs Γ F ρ H vs (kvs.map (·.2)) → RVs Γ F ρ H (repV k v (kvs.map (·.1)) vs) ((kvs.map fun kv => if kv.1 = k then (kv.1, w) else kv).map (·.2))
  | [], vs, r => by
    cases vs with
    | nil => exact r
    | cons => exact r
  | kv :: kvs, [], r => by simp [RVs] at r
  | kv :: kvs, t :: ts, r => by
    obtain ⟨y, ys, e, r1, r2⟩ := r
    simp only [List.map_cons, List.cons.injEq] at e
    obtain ⟨e1, e2⟩ := e
    subst e1; subst e2
    simp only [List.map_cons, repV]
    by_cases h : kv.1 = k
    · rw [decide_eq_true h, if_pos h]
      exact ⟨_, _, rfl, rv, repV_ok rv r2⟩
    · rw [decide_eq_false h, if_neg h]
      exact ⟨_, _, rfl, r1, repV_ok rv r2⟩
theorem hasK_eq {kvs : List (Key × V)} {k : Key} : (kvs.any fun kv => decide (kv.1 = k)) = hasK (kvs.map (·.1)) k := by
  unfold hasK; rw [List.any_map]; rfl
theorem putT_ok {k : Key} {v : T} {w : V} {kvs : List (Key × V)} {vs : List T} (rv : RV Γ F ρ H v w) (r : RVs Γ F ρ H vs (kvs.map (·.2))) :
    (putK kvs k w).map (·.1) = (putT (kvs.map (·.1)) vs k v).1 ∧ RVs Γ F ρ H (putT (kvs.map (·.1)) vs k v).2 ((putK kvs k w).map (·.2)) := by
  unfold putK putT
  rw [hasK_eq]
  cases hasK (kvs.map (·.1)) k with
  | true =>
    rw [if_pos rfl]
    refine ⟨?_, repV_ok rv r⟩
    rw [List.map_map]
    refine List.map_congr_left fun kv _ => ?_
    show (if kv.1 = k then (kv.1, w) else kv).1 = kv.1
    split <;> rfl
  | false =>
    rw [if_neg (by simp)]
    exact ⟨by simp, by rw [List.map_append]; exact r.snoc rv⟩
theorem mergeT_ok : ∀ {more : List (Key × V)} {mt : List (Key × T)} {kvs : List (Key × V)} {vs : List T}, more.map (·.1) = mt.map (·.1) → RVs Γ F ρ H (mt.map (·.2)) (more.map (·.2)) → RVs Γ F ρ H vs (kvs.map (·.2)) →
    (mergeK kvs more).map (·.1) = (mergeT (kvs.map (·.1)) vs mt).1 ∧ RVs Γ F ρ H (mergeT (kvs.map (·.1)) vs mt).2 ((mergeK kvs more).map (·.2))
  | [], [], kvs, vs, _, _, r => ⟨rfl, r⟩
  | [], _ :: _, _, _, e, _, _ => by simp at e
  | _ :: _, [], _, _, e, _, _ => by simp at e
  | (k, w) :: more, (k', v) :: mt, kvs, vs, e, rm, r => by
    simp only [List.map_cons, List.cons.injEq] at e
    obtain ⟨e1, e2⟩ := e
    subst e1
    obtain ⟨y, ys, e3, r1, r2⟩ := rm
    simp only [List.map_cons, List.cons.injEq] at e3
    obtain ⟨e4, e5⟩ := e3
    subst e4; subst e5
    obtain ⟨h1, h2⟩ := putT_ok (k := k) r1 r
    have ih := mergeT_ok (kvs := putK kvs k w) (vs := (putT (kvs.map (·.1)) vs k v).2) e2 r2 h2
    rw [h1] at ih
    exact ih
end

/-! ### displays -/
def keysT : List (T × T) → Option (List (Key × T))
  | [] => some []
  | (a, b) :: r => match keyT a, keysT r with
    | some k, some m => some ((k, b) :: m)
    | _, _ => none
abbrev MP := M (List (T × T))
def mP0 : MP := fun _ st => .ok [] st
def mPc (k v : ME) (r : MP) : MP := fun σ st => (k σ st).bind fun a st1 => (v σ st1).bind fun b st2 => (r σ st2).bind fun m st3 => .ok ((a, b) :: m) st3
def RPs (Γ : Gam) (F : List Addr) : List Addr → List O → Hp → List (T × T) → List (V × V) → Prop := fun ρ _ H ts vs => RVs Γ F ρ H (ts.map (·.1)) (vs.map (·.1)) ∧ RVs Γ F ρ H (ts.map (·.2)) (vs.map (·.2))
def tKv (Γ : Gam) (m : MP) (W : WX) (σ : L2.St) (H : Hp) (Q : List (V × V) → Hp → Prop) : Prop := ∃ (σp : Ev) (F ρ : List Addr) (st : List O), SR Γ F ρ H st ∧ RE Γ F ρ H σp σ ∧ Ran Γ F (RPs Γ F) (m σp st) ρ st H (fun cls d H' => W cls d σ H') Q
def SPr (Γ : Gam) (X : Cx) (W : WX) (pos : Pos) (ks : List (Option Expr)) (vs : List Expr) (m : MP) : Prop := ∃ trs, PPs X pos ks vs trs ∧ ∀ σ H Q, tKv Γ m W σ H Q → tPairs trs σ H Q
section
variable {Γ : Gam} {X : Cx} {W : WX} {pos : Pos}
theorem sP0 : SPr Γ X W pos [] [] mP0 := ⟨[], pps_nil, fun σ H Q ⟨σp, F, ρ, st, s, re, h⟩ => Ran.done s h ⟨rfl, rfl⟩⟩
theorem sPc {k v : Expr} {ks : List (Option Expr)} {vs : List Expr} {a b : ME} {m : MP} (hk : SE Γ X W k a) (hv : SE Γ X W v b) (hr : SPr Γ X W pos ks vs m) : SPr Γ X W pos (some k :: ks) (v :: vs) (mPc a b m) := by
  obtain ⟨trs, h1, h2⟩ := hr
  exact ⟨_, pps_cons hk hv h1, fun σ H Q ⟨σp, F, ρ, st, s, re, h⟩ => ⟨σp, F, ρ, st, s, re, Ran.bind s h fun x st1 u H1 ρ1 _ s1 p1 r1 h1 => ⟨σp, F, ρ1, st1, s1, re.post s p1, Ran.bind s1 h1 fun y st2 w H2 ρ2 _ s2 p2 r2 h3 =>
    h2 _ _ _ ⟨σp, F, ρ2, st2, s2, (re.post s p1).post s1 p2, Ran.bind s2 h3 fun m st3 ps H3 ρ3 _ s3 p3 r3 h4 => Ran.done s3 h4 ⟨⟨u, _, rfl, p3.rv s2.rs (p2.rv s1.rs r1), r3.1⟩, ⟨w, _, rfl, p3.rv s2.rs r2, r3.2⟩⟩⟩⟩⟩⟩
def mDisp (own : Bool) (m : MP) : ME := fun σ st => (m σ st).bind fun ps st1 => match keysT ps, Nat.ble ps.length 15 with
  | some kts, true => match own with
    | false => .ok (.dct (mergeT [] [] kts).1 (mergeT [] [] kts).2) st1
    | true => .ok (.ref st1.length) (st1 ++ [.dct (mergeT [] [] kts).1 (mergeT [] [] kts).2])
  | _, _ => .no
theorem keysT_ok {F ρ : List Addr} {H : Hp} : ∀ {ps : List (T × T)} {vs : List (V × V)} {kts : List (Key × T)}, keysT ps = some kts → RVs Γ F ρ H (ps.map (·.1)) (vs.map (·.1)) → RVs Γ F ρ H (ps.map (·.2)) (vs.map (·.2)) →
    ∃ kvs : List (Key × V), vs = kvs.map (fun kv => (kV kv.1, kv.2)) ∧ kvs.map (·.1) = kts.map (·.1) ∧ RVs Γ F ρ H (kts.map (·.2)) (kvs.map (·.2)) ∧ kvs.length = ps.length
  | [], vs, kts, e, r1, r2 => by
    cases e
    have : vs = [] := List.map_eq_nil_iff.mp (show vs.map (·.1) = [] from r1)
    subst this
    exact ⟨[], rfl, rfl, rfl, rfl⟩
  | (a, b) :: ps, vs, kts, e, r1, r2 => by
    simp only [keysT] at e
    split at e
    · rename_i k m e1 e2
      cases e
      obtain ⟨u, us, q1, ra, ras⟩ := r1
      obtain ⟨w, ws, q2, rb, rbs⟩ := r2
      cases vs with
      | nil => simp at q1
      | cons v vs =>
        simp only [List.map_cons, List.cons.injEq] at q1 q2
        obtain ⟨z1, z2⟩ := q1; obtain ⟨z3, z4⟩ := q2
        subst z1; subst z2; subst z3; subst z4
        obtain ⟨kvs, h1, h2, h3, h4⟩ := keysT_ok e2 ras rbs
        refine ⟨(k, v.2) :: kvs, ?_, by simp [h2], ⟨_, _, rfl, rb, h3⟩, by simp [h4]⟩
        rw [List.map_cons, ← h1]
        have : v.1 = kV k := keyT_ok e1 ra
        rw [← this]
    · cases e
theorem dK_ne {kvs : List (Key × V)} : ¬ Tu (HO.dK kvs) := id
theorem sE_disp (own : Bool) {ks : List (Option Expr)} {vs : List Expr} {m : MP} (h : SPr Γ X W pos ks vs m) (hall : ks.all (·.isSome) = true := by rfl) (hl : ks.length = vs.length := by rfl) (h0 : ks ≠ [] := by exact List.cons_ne_nil _ _) (h15 : ks.length ≤ 15 := by decide) : SE Γ X W (.Dict ks vs pos) (mDisp own m) := by
  obtain ⟨trs, h1, h2⟩ := h
  refine (pe_disp h1 hall hl h0 h15).imp fun σ H Q ⟨σp, F, ρ, st, s, re, h⟩ p hp => h2 _ _ _ ⟨σp, p :: F, ρ, st, s.hold hp, re.hold hp, ?_⟩
  unfold mDisp at h
  cases q : m σp st with
  | no => rw [q] at h; exact h
  | exc e st1 =>
    rw [q] at h
    exact fun cls d H2 ρ2 po rx => h cls d H2 ρ2 (po.free hp dK_ne) (rx.less fun a z => List.mem_cons_of_mem _ z)
  | ok ps st1 =>
    rw [q] at h
    intro vs H2 ρ2 po r
    obtain ⟨e1, e2⟩ := held_at s hp po
    refine ⟨e1, ?_⟩
    simp only [Rs.bind] at h
    split at h
    · rename_i kts z1 z2
      obtain ⟨kvs, g1, g2, g3, g4⟩ := keysT_ok z1 r.1 r.2
      refine ⟨kvs, g1, by rw [g4]; exact Nat.le_of_ble_eq_true z2, ?_⟩
      cases own with
      | false =>
        obtain ⟨m1, m2⟩ := mergeT_ok (Γ := Γ) (kvs := []) (vs := []) g2 (RVs.fill (o' := .dK (mergeK [] kvs)) s hp dK_ne po g3) rfl
        exact h _ _ _ (Post.fill (o' := .dK (mergeK [] kvs)) s hp dK_ne po) ⟨p, _, rfl, (s.fresh hp).1, e2, .inl upd_same, m1, m2⟩
      | true =>
        obtain ⟨m1, m2⟩ := mergeT_ok (Γ := Γ) (kvs := []) (vs := []) g2 (RVs.own (o' := .dK (mergeK [] kvs)) s hp dK_ne po g3) rfl
        exact h _ _ _ (Post.own (u := .dct _ _) s hp dK_ne po ⟨_, upd_same, m1, m2⟩) ⟨p, rfl, by rw [← po.rs.len]; simp⟩
    · exact h.elim
end
end WR
namespace WR
open PySem PySem.Spec PyProof.Rows L2
section
variable {Γ : Gam} {F ρ : List Addr} {H : Hp} {st : List O}
def ownD (st : List O) : T → Option (Nat × List Key × List T)
  | .ref n => match st[n]? with
    | some (.dct ks vs) => some (n, ks, vs)
    | _ => none
  | _ => none
theorem ownD_ok {a : T} {x : V} {n : Nat} {ks : List Key} {xs : List T} (s : RS Γ F ρ H st) (e : ownD st a = some (n, ks, xs)) (r : RV Γ F ρ H a x) :
    ∃ (p : Addr) (kvs : List (Key × V)), x = .ref p ∧ ρ[n]? = some p ∧ H p = some (.dK kvs) ∧ kvs.map (·.1) = ks ∧ RVs Γ F ρ H xs (kvs.map (·.2)) := by
  cases a with
  | ref m =>
    obtain ⟨p, rfl, h1⟩ := r
    simp only [ownD] at e
    cases q : st[m]? with
    | none => rw [q] at e; cases e
    | some o =>
      cases o with
      | dct ks' ys => rw [q] at e; cases e; obtain ⟨kvs, h3, h4, h2⟩ := RO.dict (s.at_ _ _ p q h1); exact ⟨p, kvs, rfl, h1, h3, h4, h2⟩
      | _ => rw [q] at e; cases e
  | _ => simp [ownD] at e
theorem Post.dctSet {n : Nat} {a : Addr} {kvs kws : List (Key × V)} {ys : List T} {ks : List Key} (s : SR Γ F ρ H st) (e : ρ[n]? = some a) (ha : H a = some (.dK kvs)) (hk : kws.map (·.1) = ks) (r : RVs Γ F ρ H ys (kws.map (·.2))) : Post Γ F ρ H ρ (st.set n (.dct ks ys)) (upd H a (.dK kws)) := by
  have k : Keep ρ H (upd H a (.dK kws)) := Keep.write (List.mem_of_getElem? e) fun _ z => by rw [ha] at z; cases z; exact id
  exact .write s.rs e ⟨kws, upd_same, hk, RVs.grow (fun _ z => .inl z) .refl (Keep.w k) _ _ r⟩
def dputT (o i v : T) (st : List O) : Option (List O) := match ownD st o, keyT i with
  | some (n, ks, xs), some k => match decide (xs.length < 16777216) with
    | true => some (st.set n (.dct (putT ks xs k v).1 (putT ks xs k v).2))
    | false => none
  | _, _ => none
def mDput (o i v : ME) : MS := fun σ st => (v σ st).bindS σ fun y st1 => (o σ st1).bindS σ fun x st2 => (i σ st2).bindS σ fun k st3 => match dputT x k y st3 with
  | some st4 => .ok (.nx σ) st4
  | none => .no
end
section
variable {Γ : Gam} {X : Cx} {W : WX}
theorem sS_dput {o i e : Expr} {a b c : ME} {p2 pos : Pos} (hu : X.A.units + 1 < cLine) (ho : SE Γ X W o a) (hi : SE Γ X W i b) (he : SE Γ X W e c) (hs : swapsWith e (some (.Subscript o i p2)) pos.line X.env = pure false := by rfl) : SS Γ X W (.Assign [.Subscript o i p2] e pos) (mDput a b c) :=
  (ps_dput hu ho hi he hs).imp fun D σ H ⟨σp, F, ρ, st, s, re, h⟩ => ⟨σp, F, ρ, st, s, re, RanS.lift s re h fun y st1 v H1 ρ1 s1 p1 re1 r1 h1 =>
    ⟨σp, F, ρ1, st1, s1, re1, RanS.lift s1 re1 h1 fun x st2 w H2 ρ2 s2 p2 re2 r2 h2 => ⟨σp, F, ρ2, st2, s2, re2, RanS.lift s2 re2 h2 fun k st3 u H3 ρ3 s3 p3 re3 r3 h3 => by
      cases q : dputT x k y st3 with
      | none => rw [q] at h3; exact h3.elim
      | some st4 =>
        rw [q] at h3
        unfold dputT at q
        split at q
        · rename_i n ks xs kk e1 e2
          split at q
          · rename_i e3
            cases q
            obtain ⟨p, kvs, rfl, g1, g2, g3, g4⟩ := ownD_ok s3.rs e1 (p3.rv s2.rs r2)
            have ry := p3.rv s2.rs (p2.rv s1.rs r1)
            obtain ⟨m1, m2⟩ := putT_ok (k := kk) ry g4
            rw [g3] at m1 m2
            have po := Post.dctSet s3 g1 g2 m1 m2
            have ek := keyT_ok e2 r3
            refine ⟨p, _, rfl, ?_, h3 σ _ ρ3 po (re3.post s3 po)⟩
            rw [ek]
            exact DPut.k g2 (by
              have := of_decide_eq_true e3
              rw [g4.length, List.length_map] at this
              rw [sizeLine_eq]; exact this)
          · cases q
        · cases q⟩⟩⟩
/-- {} -/
def mD0 (own : Bool) : ME := fun _ st => match own with
  | false => .ok (.dct [] []) st
  | true => .ok (.ref st.length) (st ++ [.dct [] []])
theorem sE_d0 (own : Bool) {pos : Pos} : SE Γ X W (.Dict [] [] pos) (mD0 own) :=
  pe_dnewK.imp fun σ H Q ⟨σp, F, ρ, st, s, re, h⟩ p hp => by
    cases own with
    | false => exact Ran.ends h (.laid s.rs hp) ⟨p, [], rfl, (s.fresh hp).1, (s.fresh hp).2, .inl upd_same, rfl, rfl⟩
    | true => exact Ran.ends h (.alloc (o := .dct [] []) s.rs hp ⟨[], upd_same, rfl, rfl⟩) ⟨p, rfl, by rw [← s.rs.len]; simp⟩
end
section
variable {Γ : Gam} {X : Cx} {F ρ : List Addr} {H : Hp} {st : List O}
/-! ### dict(..), list(d) -/
def pairT : T → Option (Key × T)
  | .tup [a, b] => match keyT a with
    | some k => some (k, b)
    | none => none
  | _ => none
def pairsT : List T → Option (List (Key × T))
  | [] => some []
  | t :: r => match pairT t, pairsT r with
    | some q, some m => some (q :: m)
    | _, _ => none
theorem pairsT_ok : ∀ {ts : List T} {vs : List V} {m : List (Key × T)}, pairsT ts = some m → RVs Γ F ρ H ts vs →
    ∃ (ps : List Addr) (kvs : List (Key × V)), vs = ps.map V.ref ∧ Paired (fun p kv => SqT Γ.K H p [kV kv.1, kv.2]) ps kvs ∧ kvs.map (·.1) = m.map (·.1) ∧ RVs Γ F ρ H (m.map (·.2)) (kvs.map (·.2))
  | [], _, _, e, r => by cases e; exact ⟨[], [], r, .nil, rfl, rfl⟩
  | t :: ts, vs, m, e, r => by
    obtain ⟨v, vr, rfl, r1, r2⟩ := r
    simp only [pairsT] at e
    split at e
    · rename_i q m' e1 e2
      cases e
      obtain ⟨ps, kvs, h1, h2, h3, h4⟩ := pairsT_ok e2 r2
      subst h1
      unfold pairT at e1
      split at e1
      · rename_i a b
        split at e1
        · rename_i k e3
          cases e1
          obtain ⟨p, ws, rfl, g1, g2⟩ := r1
          obtain ⟨x, xr, rfl, ra, g2⟩ := g2
          obtain ⟨y, yr, rfl, rb, g2⟩ := g2
          have e4 : yr = [] := g2
          subst e4
          rw [keyT_ok e3 ra] at g1
          exact ⟨p :: ps, (k, y) :: kvs, rfl, .cons (tupK_sq g1) h2, by simp [h3], ⟨_, _, rfl, rb, h4⟩⟩
        · cases e1
      · cases e1
    · cases e
def dctEnd (own : Bool) (kv : List Key × List T) (st : List O) : Rs T := match own with
  | false => .ok (.dct kv.1 kv.2) st
  | true => .ok (.ref st.length) (st ++ [.dct kv.1 kv.2])
theorem dctEnd_ok {own : Bool} {ks : List Key} {xs : List T} {kvs : List (Key × V)} {Q : VK} {E : XK} {p : Addr} (s : SR Γ F ρ H st) (hp : H p = none) (h : Ran Γ F (RT Γ F) (dctEnd own (ks, xs) st) ρ st H E Q) (e : kvs.map (·.1) = ks) (r : RVs Γ F ρ H xs (kvs.map (·.2))) : Q (.ref p) (upd H p (.dK kvs)) := by
  cases own with
  | false => exact Ran.ends h (.laid s.rs hp) ⟨p, kvs, rfl, (s.fresh hp).1, (s.fresh hp).2, .inl upd_same, e, r.laid s.rs hp⟩
  | true =>
    have g : Grow ρ (ρ ++ [p]) H := ⟨[p], rfl, fun a z => by rw [List.mem_singleton.mp z]; exact hp⟩
    exact Ran.ends h (.alloc (o := .dct ks xs) s.rs hp ⟨kvs, upd_same, e, RVs.grow (fun _ z => .inl z) g (Keep.w (Same.keep (Same.upd hp))) _ _ r⟩) ⟨p, rfl, by rw [← s.rs.len]; simp⟩
def dictB (own : Bool) : MF := fun ts st => match one1 ts with
  | some t => match dctT st t with
    | some (ks, xs) => dctEnd own (ks, xs) st
    | none => match lstT st t with
      | some xs => match pairsT xs with
        | some m => dctEnd own (mergeT [] [] m) st
        | none => .no
      | none => .no
  | none => .no
def rDictA (K : PySem.W.Frag) : List V → Hp → VK → Prop := fun xs H Q => (∃ (a : Addr) (kvs : List (Key × V)), xs = [.ref a] ∧ Rd H a (.dK kvs) ∧ ∀ p, H p = none → Q (.ref p) (upd H p (.dK kvs))) ∨
  ∃ (a : Addr) (ps : List Addr) (kvs : List (Key × V)), xs = [.ref a] ∧ SqL K H a (ps.map V.ref) ∧ Paired (fun p kv => SqT K H p [kV kv.1, kv.2]) ps kvs ∧ ∀ p, H p = none → Q (.ref p) (upd H p (.dK (mergeK [] kvs)))
theorem call_dictA (hc : X.calm = true) : CallR X (.type "dict") (rDictA X.K) := call_dictD.or (call_dictP hc)
theorem ok_dict (own : Bool) : CallOk Γ (rDictA Γ.K) (dictB own) := fun F ρ st H xs ts Q E s r h => by
  unfold dictB at h
  split at h
  · rename_i t e
    obtain ⟨v, rfl, rt⟩ := one1_ok e r
    split at h
    · rename_i ks ys e2
      obtain ⟨p, kvs, rfl, h1, h2, h3⟩ := dctT_ok s.rs e2 rt
      exact .inl ⟨p, kvs, rfl, h1, fun q hq => dctEnd_ok s hq h h2 h3⟩
    · split at h
      · rename_i ys e3
        split at h
        · rename_i m e4
          obtain ⟨p, vs, rfl, h1, h2⟩ := lstT_ok s.rs e3 rt
          obtain ⟨ps, kvs, g1, g2, g3, g4⟩ := pairsT_ok e4 h2
          subst g1
          obtain ⟨m1, m2⟩ := mergeT_ok (kvs := []) (vs := []) g3 g4 rfl
          exact .inr ⟨p, ps, kvs, rfl, .of h1, g2, fun q hq => dctEnd_ok s hq h m1 m2⟩
        · exact h.elim
      · exact h.elim
  · exact h.elim
end
end WR
namespace WR
open PySem PySem.Spec PyProof.Rows L2
/-! ### sorted(..) of texts -/
def leS (a b : Str) : Bool := !ltCps b.cps.toList a.cps.toList
theorem leS_iff (a b : Str) : leS a b = true ↔ a.cps.toList ≤ b.cps.toList := by
  unfold leS
  rw [ltCps_eq]
  by_cases h : b.cps.toList < a.cps.toList
  · rw [decide_eq_true h]; exact Iff.intro (fun z => by simp at z) (fun z => absurd h z)
  · rw [decide_eq_false h]; exact Iff.intro (fun _ => h) (fun _ => rfl)
theorem leS_trans {a b c : Str} (h1 : leS a b = true) (h2 : leS b c = true) : leS a c = true := (leS_iff _ _).mpr (List.le_trans ((leS_iff _ _).mp h1) ((leS_iff _ _).mp h2))
theorem leS_total (a b : Str) : leS a b = true ∨ leS b a = true := (List.le_total (α := Nat) a.cps.toList b.cps.toList).imp (leS_iff _ _).mpr (leS_iff _ _).mpr
theorem leS_anti {a b : Str} (h1 : leS a b = true) (h2 : leS b a = true) : a = b := by
  have e := List.le_antisymm (α := Nat) ((leS_iff _ _).mp h1) ((leS_iff _ _).mp h2)
  obtain ⟨⟨x⟩⟩ := a
  obtain ⟨⟨y⟩⟩ := b
  simp only at e
  subst e
  rfl
def insS (x : Str) : List Str → List Str
  | [] => [x]
  | y :: r => match leS x y with
    | true => x :: y :: r
    | false => y :: insS x r
def sortS : List Str → List Str
  | [] => []
  | x :: r => insS x (sortS r)
theorem insS_perm (x : Str) : ∀ l, (insS x l).Perm (x :: l)
  | [] => .refl _
  | y :: r => by
    unfold insS
    cases leS x y with
    | true => exact .refl _
    | false => exact ((insS_perm x r).cons y).trans (.swap x y r)
theorem sortS_perm : ∀ l, (sortS l).Perm l
  | [] => .refl _
  | x :: r => (insS_perm x _).trans ((sortS_perm r).cons x)
theorem insS_pw (x : Str) : ∀ l : List Str, l.Pairwise (fun a b => leS a b = true) → (insS x l).Pairwise fun a b => leS a b = true
  | [], _ => by simp [insS]
  | y :: r, h => by
    unfold insS
    rw [List.pairwise_cons] at h
    cases q : leS x y with
    | true =>
      refine List.pairwise_cons.mpr ⟨fun z hz => ?_, List.pairwise_cons.mpr h⟩
      rcases List.mem_cons.mp hz with hz | hz
      · rw [hz]; exact q
      · exact leS_trans q (h.1 z hz)
    | false =>
      refine List.pairwise_cons.mpr ⟨fun z hz => ?_, insS_pw x r h.2⟩
      have hz' := (insS_perm x r).mem_iff.mp hz
      rcases List.mem_cons.mp hz' with hz' | hz'
      · rw [hz']
        exact (leS_total x y).resolve_left (by rw [q]; simp)
      · exact h.1 z hz'
theorem sortS_pw : ∀ l : List Str, (sortS l).Pairwise fun a b => leS a b = true
  | [] => List.Pairwise.nil
  | x :: r => insS_pw x _ (sortS_pw r)
theorem rising_pw : ∀ (l : List Str) (p : Str), risingS p l = true → (p :: l).Pairwise fun a b => leS a b = true
  | [], p, _ => by simp
  | x :: r, p, h => by
    unfold risingS at h
    simp only [Bool.and_eq_true] at h
    have ih := rising_pw r x h.2
    refine List.pairwise_cons.mpr ⟨fun z hz => ?_, ih⟩
    rcases List.mem_cons.mp hz with hz | hz
    · rw [hz]; exact h.1
    · exact leS_trans h.1 ((List.pairwise_cons.mp ih).1 z hz)
theorem sortS_eq {ys xs : List Str} (h : ys.Perm xs) (s : sortedS ys = true) : ys = sortS xs := by
  have pw : ys.Pairwise fun a b => leS a b = true := by
    cases ys with
    | nil => exact .nil
    | cons x r => exact rising_pw r x s
  exact List.Perm.eq_of_pairwise (fun a b _ _ h1 h2 => leS_anti h1 h2) pw (sortS_pw xs) (h.trans (sortS_perm xs).symm)
section
variable {Γ : Gam} {X : Cx} {F ρ : List Addr} {H : Hp} {st : List O}
def strsT : List T → Option (List Str)
  | [] => some []
  | .str x :: r => match strsT r with
    | some xs => some (x :: xs)
    | none => none
  | _ => none
theorem strsT_ok : ∀ {ts : List T} {vs : List V} {xs : List Str}, strsT ts = some xs → RVs Γ F ρ H ts vs → vs = xs.map V.str
  | [], vs, xs, e, r => by cases e; exact r
  | t :: ts, vs, xs, e, r => by
    obtain ⟨v, vr, rfl, r1, r2⟩ := r
    unfold strsT at e
    split at e
    · rename_i e0; cases e0
    · rename_i x r' e0
      cases e0
      cases q : strsT ts with
      | none => rw [q] at e; cases e
      | some m =>
        rw [q] at e; cases e
        rw [strsT_ok q r2, show v = V.str x from r1]; rfl
    · cases e
def keyS : List Key → Option (List Str)
  | [] => some []
  | .inr x :: r => match keyS r with
    | some xs => some (x :: xs)
    | none => none
  | _ => none
theorem keyS_ok : ∀ {ks : List Key} {xs : List Str}, keyS ks = some xs → ks = xs.map Sum.inr
  | [], xs, e => by cases e; rfl
  | .inr x :: r, xs, e => by
    simp only [keyS] at e
    cases q : keyS r with
    | none => rw [q] at e; cases e
    | some m => rw [q] at e; cases e; rw [keyS_ok q]; rfl
  | .inl _ :: _, _, e => by cases e
theorem strs_rv {F ρ : List Addr} {H : Hp} : ∀ xs : List Str, RVs Γ F ρ H (xs.map T.str) (xs.map V.str)
  | [] => rfl
  | x :: r => ⟨_, _, rfl, rfl, strs_rv r⟩
/-- a new list -/
def lstEnd (own : Bool) (xs : List T) (st : List O) : Rs T := match own with
  | false => .ok (.lst xs) st
  | true => .ok (.ref st.length) (st ++ [.lst xs])
theorem lstEnd_ok {own : Bool} {xs : List T} {vs : List V} {Q : VK} {E : XK} {p : Addr} (s : SR Γ F ρ H st) (hp : H p = none) (h : Ran Γ F (RT Γ F) (lstEnd own xs st) ρ st H E Q) (r : RVs Γ F ρ H xs vs) : Q (.ref p) (upd H p (.lst vs)) := by
  cases own with
  | false => exact Ran.ends h (.laid s.rs hp) (RV.lstNew s hp r)
  | true =>
    have g : Grow ρ (ρ ++ [p]) H := ⟨[p], rfl, fun a z => by rw [List.mem_singleton.mp z]; exact hp⟩
    exact Ran.ends h (.alloc (o := .lst xs) s.rs hp ⟨vs, upd_same, RVs.grow (fun _ z => .inl z) g (Keep.w (Same.keep (Same.upd hp))) _ _ r⟩) ⟨p, rfl, by rw [← s.rs.len]; simp⟩
def sortB (own : Bool) : MF := fun ts st => match one1 ts with
  | some t => match dctT st t with
    | some (ks, _) => match keyS ks with
      | some xs => match decide (xs.length < 64) with
        | true => lstEnd own ((sortS xs).map T.str) st
        | false => .no
      | none => .no
    | none => match lstT st t with
      | some ts => match strsT ts with
        | some xs => match decide (xs.length < 64) with
          | true => lstEnd own ((sortS xs).map T.str) st
          | false => .no
        | none => .no
      | none => .no
  | none => .no
def rSortA (K : PySem.W.Frag) : List V → Hp → VK → Prop := fun xs H Q => rSortedS K xs H Q ∨ ∃ (a : Addr) (kvs : List (Key × V)) (ks : List Str), xs = [.ref a] ∧ Rd H a (.dK kvs) ∧ kvs.map (·.1) = ks.map Sum.inr ∧ ks.length < 64 ∧ ∀ ys p, ys.Perm ks → sortedS ys = true → H p = none → Q (.ref p) (upd H p (.lst (ys.map V.str)))
theorem call_sortA (hc : X.calm = true) : CallR X (.builtin "sorted") (rSortA X.K) := cr_sortedS.or (call_sortedD hc)
theorem ok_sort (own : Bool) : CallOk Γ (rSortA Γ.K) (sortB own) := fun F ρ st H xs ts Q E s r h => by
  unfold sortB at h
  split at h
  · rename_i t e
    obtain ⟨v, rfl, rt⟩ := one1_ok e r
    split at h
    · rename_i ks ys e2
      split at h
      · rename_i zs e3
        split at h
        · rename_i e4
          obtain ⟨p, kvs, rfl, h1, h2, h3⟩ := dctT_ok s.rs e2 rt
          exact .inr ⟨p, kvs, zs, rfl, h1, by rw [h2, keyS_ok e3], of_decide_eq_true e4, fun ys q hy hs hq => by rw [sortS_eq hy hs]; exact lstEnd_ok s hq h (strs_rv _)⟩
        · exact h.elim
      · exact h.elim
    · split at h
      · rename_i ys e2
        split at h
        · rename_i zs e3
          split at h
          · rename_i e4
            obtain ⟨p, vs, rfl, h1, h2⟩ := lstT_ok s.rs e2 rt
            refine .inl ⟨p, zs, rfl, .of (by rw [← strsT_ok e3 h2]; exact h1), of_decide_eq_true e4, fun ys q hy hs hq => by rw [sortS_eq hy hs]; exact lstEnd_ok s hq h (strs_rv _)⟩
          · exact h.elim
        · exact h.elim
      · exact h.elim
  · exact h.elim
end
end WR
namespace WR
open PySem PySem.Spec PyProof.Rows L2
/-! ### isinstance -/
inductive Tg where
  | non | bl | int | str | lst | tup | dct
  | ins (c : Nat) | exc (c : Nat)
def tgT (st : List O) : T → Option Tg
  | .non => some .non
  | .bl _ => some .bl
  | .int _ => some .int
  | .str _ => some .str
  | .lst _ => some .lst
  | .scr _ => some .lst
  | .tup _ => some .tup
  | .dct _ _ => some .dct
  | .ins c _ _ => some (.ins c)
  | .exc c _ _ => some (.exc c)
  | .ref n => match st[n]? with
    | some (.lst _) => some .lst
    | some (.dct _ _) => some .dct
    | some (.ins c _ _) => some (.ins c)
    | _ => none
  | _ => none
def tgV (Γ : Gam) : Tg → Value
  | .non => .type "NoneType"
  | .bl => .type "bool"
  | .int => .type "int"
  | .str => .type "str"
  | .lst => .type "list"
  | .tup => .type "tuple"
  | .dct => .type "dict"
  | .ins c => .ref (Γ.cad c)
  | .exc c => .ref (Γ.cad c)
/-- what an own class must say, so that isinstance asks its instances rightly -/
structure InsC (K : PySem.W.Frag) (C : Addr) : Prop where
  cl : Cls K C
  ha : PySem.W.findIn K (.ref C) "__class__" = some (some (.builtin "object.__class__"))
  hn : PySem.W.specialIn K (.builtin "object.__class__") "__get__" = some (some (.builtin "getset_descriptor.__get__"))
  htk : PySem.W.takesIn K (.builtin "object.__class__") = some true
  hm : PySem.W.mroIn K C (.type "object") = some true
/-- of which classes what is: the text's table -/
structure Isa (Γ : Gam) (isa : Tg → T → Option Bool) : Prop where
  ok : ∀ g c b, isa g c = some b → ∃ v u, (∀ F ρ H w, RV Γ F ρ H c w → w = v) ∧ ClsV v u ∧ PySem.W.kitOne Γ.K (tgV Γ g) u = some b
  ins : ∀ c x b, isa (.ins c) x = some b → InsC Γ.K (Γ.cad c)
  exc : ∀ c x b, isa (.exc c) x = some b → ExcC Γ.K (Γ.cad c)
def anyIsa (isa : Tg → T → Option Bool) (g : Tg) : List T → Option Bool
  | [] => some false
  | c :: r => match isa g c with
    | some true => match anyIsa isa g r with
      | some _ => some true
      | none => none
    | some false => anyIsa isa g r
    | none => none
def isiB (isa : Tg → T → Option Bool) : MF := fun ts st => match ts with
  | [x, .tup cs] => match tgT st x with
    | some (.exc _) => .no
    | some g => match cs with
      | c0 :: cr => match anyIsa isa g (c0 :: cr) with
        | some b => .ok (.bl b) st
        | none => .no
      | [] => .no
    | none => .no
  | [x, c] => match tgT st x with
    | some g => match isa g c with
      | some b => .ok (.bl b) st
      | none => .no
    | none => .no
  | _ => .no
section
variable {Γ : Gam} {X : Cx} {F ρ : List Addr} {H : Hp} {st : List O} {isa : Tg → T → Option Bool}
theorem ba_tag {K : PySem.W.Frag} {a : Addr} {vs : List V} (h : TupF H a vs ∨ KTu K a vs) : TyX K H (.ref a) (.type "tuple") := by
  rcases h with ⟨o, _, h⟩ | ⟨o, its, n, h1, h2, _⟩
  · exact .fTuple h
  · exact .kTuple h1 h2
theorem tgT_ok {a : T} {x : V} {g : Tg} (s : RS Γ F ρ H st) (hi : ∀ c, g = .ins c → InsC Γ.K (Γ.cad c)) (e : tgT st a = some g) (he : ∀ c, g ≠ .exc c) (r : RV Γ F ρ H a x) : TyX Γ.K H x (tgV Γ g) := by
  cases a with
  | non => cases e; rw [show x = _ from r]; exact .base .non
  | bl b => cases e; rw [show x = _ from r]; exact .base (.bl b)
  | int i => cases e; rw [show x = _ from r]; exact .base (.int i)
  | str z => cases e; rw [show x = _ from r]; exact .base (.str z)
  | tup xs => cases e; obtain ⟨p, vs, rfl, h1, _⟩ := r; exact ba_tag h1
  | lst xs => cases e; obtain ⟨p, vs, rfl, _, _, h1, _⟩ := r; exact .base (.lst h1)
  | scr xs =>
    cases e; obtain ⟨p, rfl, h1⟩ := r
    rcases h1 with ⟨_, _, h1⟩ | ⟨o, its, n, h1, h2, _⟩
    · rcases h1 with h1 | ⟨o, h1⟩
      · exact .base (.lst h1)
      · exact .base (.frz h1)
    · exact .kList h1 h2
  | dct ks xs =>
    cases e; obtain ⟨p, kvs, rfl, _, _, h1, _⟩ := r
    rcases h1 with h1 | ⟨o, h1⟩
    · exact .base (.dK h1)
    · exact .fDict h1
  | ins c ks xs =>
    cases e; obtain ⟨p, dx, fvs, rfl, _, _, h1, _⟩ := r
    have I := hi c rfl
    exact .base (.ins h1 I.cl I.ha I.hn I.htk I.hm)
  | exc c ks xs => cases e; exact (he c rfl).elim
  | ref n =>
    obtain ⟨p, rfl, h1⟩ := r
    simp only [tgT] at e
    cases q : st[n]? with
    | none => rw [q] at e; cases e
    | some o =>
      have ro := s.at_ n o p q h1
      cases o with
      | lst ys => rw [q] at e; cases e; obtain ⟨vs, h3, _⟩ := ro; exact .base (.lst h3)
      | dct ks ys => rw [q] at e; cases e; obtain ⟨vs, h3, _⟩ := ro; exact .base (.dK h3)
      | ins c ks ys => rw [q] at e; cases e; obtain ⟨dx, vs, h3, _⟩ := ro; have I := hi c rfl; exact .base (.ins h3 I.cl I.ha I.hn I.htk I.hm)
      | _ => rw [q] at e; cases e
  | _ => simp [tgT] at e
/-- isinstance(e, c), e an exception that was caught -/
def rIsX (K : PySem.W.Frag) : List V → Hp → VK → Prop := fun xs H Q => ∃ (a C : Addr) (d : Option Addr) (c : V) (u : Value) (b : Bool), xs = [.ref a, c] ∧ H a = some (ExV (.ref C) d a) ∧ (d = none ∨ ∃ dd fvs, d = some dd ∧ H dd = some (.xd fvs)) ∧ ExcC K C ∧ ClsV c u ∧ PySem.W.kitOne K (.ref C) u = some b ∧ Q (.bl b) H
theorem call_isX : CallR X (.builtin "isinstance") (rIsX X.K) := by
  intro pins s σ H xs us Q I r h
  obtain ⟨a, C, d, c, u, b, rfl, ha, hd, ec, k, e, q⟩ := h
  obtain ⟨u1, u2, rfl, r1, r2⟩ := vals2 r
  cases (show u1 = Value.ref a from r1)
  have e2 := k.eq r2
  subst e2
  obtain ⟨⟨oe, vs, hget, hz, hv⟩, _, _⟩ := I.hok a _ ha
  have cl : (PySem.W.clsIn X.K C).isSome = true := by obtain ⟨cd, hc, _⟩ := PySem.W.any_some ec.hd; rw [hc]; rfl
  have J : ∃ od : Option Obj, PySem.W.InstAt s.heap a oe C od := by
    obtain ⟨h1, h2⟩ := hz
    have nc : PySem.W.notCls oe = true := by unfold PySem.W.notCls; rw [hv]
    rcases hd with hd | ⟨dd, fvs, hd, hx⟩
    · exact ⟨none, hget, h1, nc, by rw [h2, hd]; trivial⟩
    · obtain ⟨mA, ⟨o, _, _, e1, _⟩, _⟩ := (show ObjOk X.prog X.w H s.heap dd (.xd fvs) from I.hok dd _ hx)
      exact ⟨some o, hget, h1, nc, by rw [h2, hd]; exact e1⟩
  obtain ⟨od, J⟩ := J
  exact PySem.W.kia_one (PySem.W.kitx_exc cl ec.hg ec.hk ec.hs ec.ha ec.hn ec.ht ec.hm) I.kIn J e (fun z => nomatch z) fun tk => ⟨.bl b, H, I.tok tk, rfl, q⟩
theorem anyIsa_ok (hI : Isa Γ isa) {g : Tg} : ∀ {cs : List T} {b : Bool} {vs : List V}, anyIsa isa g cs = some b → RVs Γ F ρ H cs vs → ∃ us, Paired ClsV vs us ∧ PySem.W.kitAny Γ.K (tgV Γ g) us = some b
  | [], b, vs, e, r => by cases e; rw [show vs = [] from r]; exact ⟨[], .nil, kitAny_nil⟩
  | c :: cs, b, vs, e, r => by
    obtain ⟨v, vr, rfl, r1, r2⟩ := r
    unfold anyIsa at e
    cases q : isa g c with
    | none => rw [q] at e; cases e
    | some k =>
      obtain ⟨v', u, hv, cv, kt⟩ := hI.ok g c k q
      have ev := hv _ _ _ _ r1
      subst ev
      cases k with
      | true =>
        rw [q] at e
        simp only at e
        cases q2 : anyIsa isa g cs with
        | none => rw [q2] at e; cases e
        | some k2 =>
          rw [q2] at e; cases e
          obtain ⟨us, h1, h2⟩ := anyIsa_ok hI q2 r2
          exact ⟨u :: us, .cons cv h1, kitAny_cons kt (fun z => by cases z) fun _ => rfl⟩
      | false =>
        rw [q] at e
        obtain ⟨us, h1, h2⟩ := anyIsa_ok hI e r2
        exact ⟨u :: us, .cons cv h1, kitAny_cons kt (fun _ => h2) fun z => by cases z⟩
/-- isinstance(x, (c1, c2, ..)), the tuple's object known -/
def rIsiF (K : PySem.W.Frag) : List V → Hp → VK → Prop := fun xs H Q => ∃ (x : V) (tp : Addr) (cs : List V) (t : Value) (us : List Value) (b : Bool), xs = [x, .ref tp] ∧ TupF H tp cs ∧ Paired ClsV cs us ∧ TyX K H x t ∧ PySem.W.kitAny K t us = some b ∧ Q (.bl b) H
theorem call_isiF : CallR X (.builtin "isinstance") (rIsiF X.K) := fun pins s σ H xs us Q I r h => by
  obtain ⟨x, tp, cs, t, ws, b, e0, ⟨o9, _, hT⟩, k, ty, e, q⟩ := h
  subst e0
  obtain ⟨u1, u2, e0, r1, r2⟩ := vals2 r
  subst e0
  obtain rfl : u2 = Value.ref tp := r2
  obtain ⟨P, Z, p, hx⟩ := kit_of I r1 ty
  obtain ⟨_, _, its, rv, ⟨oc, od, dt, sl⟩, g1, g2, n, g3⟩ := I.hok tp _ hT
  have g2 : oc = .type "tuple" := g2
  have g3 : dt = .seq its.toArray n := g3
  have e3 := ClsV.all k rv
  subst e3; subst g2; subst g3
  exact PySem.W.kia_tup Z I.kIn p g1 e hx fun tk => ⟨.bl b, H, Inv.tok I tk, rfl, q⟩
def rIsA (K : PySem.W.Frag) : List V → Hp → VK → Prop := fun xs H Q => rIsi K xs H Q ∨ rIsX K xs H Q ∨ rIsiF K xs H Q ∨ rIsiK K xs H Q
theorem call_isA : CallR X (.builtin "isinstance") (rIsA X.K) := call_isi.or (call_isX.or (call_isiF.or call_isiK))
theorem ok_isi (hI : Isa Γ isa) : CallOk Γ (rIsA Γ.K) (isiB isa) := fun F ρ st H xs ts Q E s r h => by
  unfold isiB at h
  split at h
  · rename_i a cs
    obtain ⟨x, xr, rfl, ra, r2⟩ := r
    obtain ⟨y, yr, rfl, rb, r3⟩ := r2
    have e0 : yr = [] := r3
    subst e0
    cases e2 : tgT st a with
    | none => rw [e2] at h; exact h.elim
    | some g =>
      rw [e2] at h
      have hx : (∀ c, g ≠ .exc c) := fun c z => by subst z; exact h
      cases cs with
      | nil => cases g <;> exact h.elim
      | cons c0 cr =>
        cases e3 : anyIsa isa g (c0 :: cr) with
        | none => cases g <;> simp only [e3] at h <;> exact h.elim
        | some b =>
          have h' : Ran Γ F (RT Γ F) (.ok (.bl b) st) ρ st H E Q := by cases g <;> simp only [e3] at h <;> first | exact h | exact h.elim
          obtain ⟨p, vs, rfl, h1, h2⟩ := rb
          obtain ⟨us, z1, z2⟩ := anyIsa_ok hI e3 h2
          have ty := tgT_ok s.rs (fun c hc => by
            subst hc
            simp only [anyIsa] at e3
            cases q : isa (.ins c) c0 with
            | none => rw [q] at e3; cases e3
            | some k => exact hI.ins c c0 k q) e2 hx ra
          rcases h1 with h1 | ⟨o, its, n, k1, k2, k3, k4, k5, _⟩
          · exact .inr (.inr (.inl ⟨x, p, vs, _, us, b, rfl, h1, z1, ty, z2, Ran.done s h' rfl⟩))
          · obtain ⟨oc, od, dt, sl⟩ := o
            simp only at k2 k3
            subst k2; subst k3
            have e5 := ClsV.all z1 k5
            refine .inr (.inr (.inr ⟨x, p, od, us, n, sl, _, b, rfl, ?_, ty, z2, Ran.done s h' rfl⟩))
            rw [← e5]; exact k1
  · rename_i a c hne
    obtain ⟨x, xr, rfl, ra, r2⟩ := r
    obtain ⟨y, yr, rfl, rb, r3⟩ := r2
    have e0 : yr = [] := r3
    subst e0
    split at h
    · rename_i g e1
      split at h
      · rename_i b e2
        obtain ⟨v', u, hv, cv, kt⟩ := hI.ok g c b e2
        have ev := hv _ _ _ _ rb
        subst ev
        have gen : (∀ k, g ≠ .exc k) → rIsi Γ.K [x, y] H Q := fun he => ⟨x, y, _, u, b, rfl, cv, tgT_ok s.rs (fun k hk => by subst hk; exact hI.ins k c b e2) e1 he ra, kt, Ran.done s h rfl⟩
        cases g with
        | exc k =>
          refine .inr (.inl ?_)
          cases a with
          | exc k2 fs ys =>
            cases e1
            obtain ⟨p, d, rfl, _, _, h1, h2⟩ := ra
            refine ⟨p, _, d, y, u, b, rfl, h1, ?_, hI.exc _ c b e2, cv, kt, Ran.done s h rfl⟩
            rcases h2 with ⟨z, _⟩ | ⟨dd, fvs, z, _, _, z2, _⟩
            · exact .inl z
            · exact .inr ⟨dd, fvs, z, z2⟩
          | ref n =>
            simp only [tgT] at e1
            cases q : st[n]? with
            | none => rw [q] at e1; cases e1
            | some o => rw [q] at e1; cases o <;> cases e1
          | _ => cases e1
        | _ => exact .inl (gen fun k z => by cases z)
      · exact h.elim
    · exact h.elim
  · exact h.elim
end
end WR
namespace WR
open PySem PySem.Spec PyProof.Rows L2
section
variable {Γ : Gam} {X : Cx}
def LcEndG (Γ : Gam) (F ρ1 : List Addr) (H1 : Hp) (D : Addr) (P : List Addr → Hp → Prop) (N : Hp → Prop) (r : Rs (List T)) : Prop := match r with
  | .ok acc st' => ∀ ρ H accV, Lc Γ F ρ1 H1 D ρ H st' accV → RVs Γ (D :: F) ρ H acc accV → P ρ H → N H
  | _ => False
/-- the inner loop's reading -/
theorem lc_loopG {P : List Addr → Hp → Prop} {N : Hp → Prop} {src : Src} {J : It} {g : AG} {gt : TG} {c : M Bool} {tt : TT} {elt : ME} {te : TE} {vs : List Nat} {σp : Ev} {σ : L2.St} {F ρ1 : List Addr} {H1 : Hp} {D : Addr} (hD : H1 D = none) (hP : ∀ ρ H st ρ' H' st', SR Γ (D :: F) ρ H st → Post Γ (D :: F) ρ H ρ' st' H' → P ρ H → P ρ' H') (hP2 : ∀ ρ H H', KeepW (D :: F) ρ H H' → P ρ H → P ρ H')
    (hg : ∀ v σ H Q, tGv Γ g vs v σ H Q → gt v σ H Q) (ht : ∀ σ H Q, tTv Γ c W0 σ H Q → tt σ H Q) (he : ∀ σ H Q, tEv Γ elt W0 σ H Q → te σ H Q)
    (i m : Nat) (H : Hp) (w : ∃ (ρ : List Addr) (st : List O) (acc : List T) (accV : List V), Lc Γ F ρ1 H1 D ρ H st accV ∧ RVs Γ (D :: F) ρ H acc accV ∧ RE Γ (D :: F) ρ H (wipeE σp vs) (wipe σ vs) ∧ SrcR Γ (D :: F) ρ H src J ∧ P ρ H ∧ LcEndG Γ F ρ1 H1 D P N (lcL src g c elt (wipeE σp vs) m i acc st)) :
    (J.stop i H ∧ N H) ∨ (J.go i H ∧ ∃ Nx : Hp → Prop, (∀ H', Nx H' → ∃ m', m' < m ∧ ∃ (ρ : List Addr) (st : List O) (acc : List T) (accV : List V), Lc Γ F ρ1 H1 D ρ H' st accV ∧ RVs Γ (D :: F) ρ H' acc accV ∧ RE Γ (D :: F) ρ H' (wipeE σp vs) (wipe σ vs) ∧ SrcR Γ (D :: F) ρ H' src J ∧ P ρ H' ∧ LcEndG Γ F ρ1 H1 D P N (lcL src g c elt (wipeE σp vs) m' (i + 1) acc st)) ∧
      ∀ x H', J.yld i H x H' → gt x (wipe σ vs) H' fun σ2 H2 => wipe σ2 vs = wipe σ vs ∧ tt σ2 H2 fun b H3 =>
        if b = true then te σ2 H3 fun y H4 => ∃ acc, H4 D = some (.lst acc) ∧ acc.length < sizeLine ∧ Nx (upd H4 D (.lst (acc ++ [y]))) else Nx H3) := by
  obtain ⟨ρ, st, acc, accV, l, ra, re, sr, pp, h⟩ := w
  cases m with
  | zero => exact h.elim
  | succ m =>
    obtain ⟨t1, t2⟩ := sr.turn l.sr i
    unfold lcL at h
    cases q : srcAt src st i with
    | none => rw [q] at h; exact h.elim
    | some o =>
      cases o with
      | none => rw [q] at h; exact .inl ⟨t1 q, h ρ H accV l ra pp⟩
      | some t =>
        rw [q] at h
        obtain ⟨go, yl⟩ := t2 t q
        refine .inr ⟨go, fun H' => ∃ (ρ : List Addr) (st : List O) (acc : List T) (accV : List V), Lc Γ F ρ1 H1 D ρ H' st accV ∧ RVs Γ (D :: F) ρ H' acc accV ∧ RE Γ (D :: F) ρ H' (wipeE σp vs) (wipe σ vs) ∧ SrcR Γ (D :: F) ρ H' src J ∧ P ρ H' ∧ LcEndG Γ F ρ1 H1 D P N (lcL src g c elt (wipeE σp vs) m (i + 1) acc st), fun H' z => ⟨m, Nat.lt_succ_self m, z⟩, fun x H' y => ?_⟩
        obtain ⟨sm, rt⟩ := yl x H' y
        have pz := Post.same l.sr.rs sm
        have ra := pz.rvs l.sr.rs ra
        have sr := sr.post l.sr pz
        have re := re.post l.sr pz
        have pp := hP _ _ _ _ _ _ l.sr pz pp
        have l := l.next pz
        refine hg _ _ _ _ ⟨t, _, _, _, _, l.sr, re, rt, ?_⟩
        cases q2 : g t (wipeE σp vs) with
        | none => simp only [q2] at h; exact h.elim
        | some σ1 =>
          simp only [q2] at h
          intro σ' re' ky
          refine ⟨(wipe_ext ky.1 ky.2).trans wipe_wipe, ?_⟩
          refine ht _ _ _ ⟨σ1, _, _, _, l.sr, re', ?_⟩
          cases q3 : c σ1 st with
          | no => rw [q3] at h; exact h
          | exc e st1 => rw [q3] at h; exact h.elim
          | ok b st1 =>
            rw [q3] at h
            intro b' H3 ρ3 p3 eb
            cases eb
            have l3 := l.next p3
            cases b with
            | false => exact iteF ⟨ρ3, st1, acc, accV, l3, p3.rvs l.sr.rs ra, re.post l.sr p3, sr.post l.sr p3, hP _ _ _ _ _ _ l.sr p3 pp, h⟩
            | true =>
              refine iteT (he _ _ _ ⟨σ1, _, _, _, l3.sr, re'.post l.sr p3, ?_⟩)
              simp only at h
              cases q4 : elt σ1 st1 with
              | no => rw [q4] at h; exact h
              | exc e st2 => rw [q4] at h; exact h.elim
              | ok y st2 =>
                rw [q4] at h
                intro v H4 ρ4 p4 ry
                have l4 := l3.next p4
                simp only at h
                cases q5 : decide (acc.length < 16777216) with
                | false => rw [q5] at h; exact h.elim
                | true =>
                  rw [q5] at h
                  have ra4 := p4.rvs l3.sr.rs (p3.rvs l.sr.rs ra)
                  refine ⟨accV, l4.at_, by rw [← ra4.length, sizeLine_eq]; exact of_decide_eq_true q5, ρ4, st2, acc ++ [y], accV ++ [v], l4.app hD v, ?_, ?_, ?_, hP2 _ _ _ (l4.keepD _) (hP _ _ _ _ _ _ l3.sr p4 (hP _ _ _ _ _ _ l.sr p3 pp)), h⟩
                  · exact RVs.grow (fun _ z => .inl z) .refl (l4.keepD _) _ _ (ra4.snoc ry)
                  · exact RE.grow (fun _ z => .inl z) .refl (l4.keepD _) ((re.post l.sr p3).post l3.sr p4)
                  · exact SrcR.grow (fun _ z => .inl z) .refl (l4.keepD _) ((sr.post l.sr p3).post l3.sr p4)

/-! ### two clauses -/
def lcL2 (src : Src) (g : AG) (c : M Bool) (it1 : M Src) (vs1 : List Nat) (g1 : AG) (c1 : M Bool) (elt : ME) (σ : Ev) : Nat → Nat → List T → List O → Rs (List T)
  | 0, _, _, _ => .no
  | m + 1, i, acc, st => match srcAt src st i with
    | none => .no
    | some none => .ok acc st
    | some (some t) => match g t σ with
      | none => .no
      | some σ1 => match c σ1 st with
        | .ok true st1 => match it1 σ1 st1 with
          | .ok src1 st2 => match lcL src1 g1 c1 elt (wipeE σ1 vs1) fuel 0 acc st2 with
            | .ok acc' st3 => lcL2 src g c it1 vs1 g1 c1 elt σ m (i + 1) acc' st3
            | _ => .no
          | _ => .no
        | .ok false st1 => lcL2 src g c it1 vs1 g1 c1 elt σ m (i + 1) acc st1
        | _ => .no
def mLc2 (it : M Src) (vs : List Nat) (g : AG) (c : M Bool) (it1 : M Src) (vs1 : List Nat) (g1 : AG) (c1 : M Bool) (elt : ME) : ME := fun σ st => (it σ st).bind fun src st1 => match lcL2 src g c it1 vs1 g1 c1 elt (wipeE σ vs) fuel 0 [] st1 with
  | .ok acc st2 => .ok (.lst acc) st2
  | _ => .no
variable {W : WX}
theorem lc2_loop {src : Src} {J : It} {g g1 : AG} {gt gt1 : TG} {c c1 : M Bool} {tt tt1 : TT} {it1 : M Src} {wi1 : TI} {elt : ME} {te : TE} {vs vs1 : List Nat} {σp : Ev} {σ : L2.St} {F ρ1 : List Addr} {H1 : Hp} {D : Addr} {Q : VK} (hD : H1 D = none)
    (hg : ∀ v σ H Q, tGv Γ g vs v σ H Q → gt v σ H Q) (ht : ∀ σ H Q, tTv Γ c W0 σ H Q → tt σ H Q) (hi1 : ∀ σ H R, tIv Γ it1 W0 σ H R → wi1 σ H R) (hg1 : ∀ v σ H Q, tGv Γ g1 vs1 v σ H Q → gt1 v σ H Q) (ht1 : ∀ σ H Q, tTv Γ c1 W0 σ H Q → tt1 σ H Q) (he : ∀ σ H Q, tEv Γ elt W0 σ H Q → te σ H Q)
    (i m : Nat) (H : Hp) (w : ∃ (ρ : List Addr) (st : List O) (acc : List T) (accV : List V), Lc Γ F ρ1 H1 D ρ H st accV ∧ RVs Γ (D :: F) ρ H acc accV ∧ RE Γ (D :: F) ρ H (wipeE σp vs) (wipe σ vs) ∧ SrcR Γ (D :: F) ρ H src J ∧ LcEnd Γ F ρ1 H1 D (lcL2 src g c it1 vs1 g1 c1 elt (wipeE σp vs) m i acc st) Q) :
    (J.stop i H ∧ Q (.ref D) H) ∨ (J.go i H ∧ ∃ Nx : Hp → Prop, (∀ H', Nx H' → ∃ m', m' < m ∧ ∃ (ρ : List Addr) (st : List O) (acc : List T) (accV : List V), Lc Γ F ρ1 H1 D ρ H' st accV ∧ RVs Γ (D :: F) ρ H' acc accV ∧ RE Γ (D :: F) ρ H' (wipeE σp vs) (wipe σ vs) ∧ SrcR Γ (D :: F) ρ H' src J ∧ LcEnd Γ F ρ1 H1 D (lcL2 src g c it1 vs1 g1 c1 elt (wipeE σp vs) m' (i + 1) acc st) Q) ∧
      ∀ x H', J.yld i H x H' → gt x (wipe σ vs) H' fun σ2 H2 => wipe σ2 vs = wipe σ vs ∧ tt σ2 H2 fun b H3 =>
        if b = true then wi1 σ2 H3 fun J1 H4 => ∃ W1 : Nat → Nat → Hp → Prop, (∃ m, W1 0 m H4) ∧ ∀ j k H, W1 j k H →
          (J1.stop j H ∧ Nx H) ∨ (J1.go j H ∧ ∃ Nx1 : Hp → Prop, (∀ H', Nx1 H' → ∃ k', k' < k ∧ W1 (j + 1) k' H') ∧ ∀ x H', J1.yld j H x H' → gt1 x (wipe σ2 vs1) H' fun σ3 H5 => wipe σ3 vs1 = wipe σ2 vs1 ∧ tt1 σ3 H5 fun b H6 =>
            if b = true then te σ3 H6 fun y H7 => ∃ acc, H7 D = some (.lst acc) ∧ acc.length < sizeLine ∧ Nx1 (upd H7 D (.lst (acc ++ [y]))) else Nx1 H6)
        else Nx H3) := by
  obtain ⟨ρ, st, acc, accV, l, ra, re, sr, h⟩ := w
  cases m with
  | zero => exact h.elim
  | succ m =>
    obtain ⟨t1, t2⟩ := sr.turn l.sr i
    unfold lcL2 at h
    cases q : srcAt src st i with
    | none => rw [q] at h; exact h.elim
    | some o =>
      cases o with
      | none => rw [q] at h; exact .inl ⟨t1 q, h ρ H accV l ra⟩
      | some t =>
        rw [q] at h
        obtain ⟨go, yl⟩ := t2 t q
        refine .inr ⟨go, fun H' => ∃ (ρ : List Addr) (st : List O) (acc : List T) (accV : List V), Lc Γ F ρ1 H1 D ρ H' st accV ∧ RVs Γ (D :: F) ρ H' acc accV ∧ RE Γ (D :: F) ρ H' (wipeE σp vs) (wipe σ vs) ∧ SrcR Γ (D :: F) ρ H' src J ∧ LcEnd Γ F ρ1 H1 D (lcL2 src g c it1 vs1 g1 c1 elt (wipeE σp vs) m (i + 1) acc st) Q, fun H' z => ⟨m, Nat.lt_succ_self m, z⟩, fun x H' y => ?_⟩
        obtain ⟨sm, rt⟩ := yl x H' y
        have pz := Post.same l.sr.rs sm
        have ra := pz.rvs l.sr.rs ra
        have sr := sr.post l.sr pz
        have re := re.post l.sr pz
        have l := l.next pz
        refine hg _ _ _ _ ⟨t, _, _, _, _, l.sr, re, rt, ?_⟩
        cases q2 : g t (wipeE σp vs) with
        | none => simp only [q2] at h; exact h.elim
        | some σ1 =>
          simp only [q2] at h
          intro σ' re' ky
          refine ⟨(wipe_ext ky.1 ky.2).trans wipe_wipe, ?_⟩
          refine ht _ _ _ ⟨σ1, _, _, _, l.sr, re', ?_⟩
          cases q3 : c σ1 st with
          | no => rw [q3] at h; exact h
          | exc e st1 => rw [q3] at h; exact h.elim
          | ok b st1 =>
            rw [q3] at h
            intro b' H3 ρ3 p3 eb
            cases eb
            have l3 := l.next p3
            have ra3 := p3.rvs l.sr.rs ra
            have re3 := re.post l.sr p3
            have sr3 := sr.post l.sr p3
            have re3' := re'.post l.sr p3
            cases b with
            | false => exact iteF ⟨ρ3, st1, acc, accV, l3, ra3, re3, sr3, h⟩
            | true =>
              simp only at h
              refine iteT (hi1 _ _ _ ⟨σ1, _, _, _, l3.sr, re3', ?_⟩)
              cases q4 : it1 σ1 st1 with
              | no => rw [q4] at h; exact h
              | exc e st2 => rw [q4] at h; exact h.elim
              | ok src1 st2 =>
                rw [q4] at h
                intro J1 H4 ρ4 p4 r4
                have l4 := l3.next p4
                simp only at h
                refine ⟨fun j k H => ∃ (ρ : List Addr) (st : List O) (acc : List T) (accV : List V), Lc Γ F ρ1 H1 D ρ H st accV ∧ RVs Γ (D :: F) ρ H acc accV ∧ RE Γ (D :: F) ρ H (wipeE σ1 vs1) (wipe σ' vs1) ∧ SrcR Γ (D :: F) ρ H src1 J1 ∧ (RE Γ (D :: F) ρ H (wipeE σp vs) (wipe σ vs) ∧ SrcR Γ (D :: F) ρ H src J) ∧
                    LcEndG Γ F ρ1 H1 D (fun ρ H => RE Γ (D :: F) ρ H (wipeE σp vs) (wipe σ vs) ∧ SrcR Γ (D :: F) ρ H src J) (fun H' => ∃ (ρ : List Addr) (st : List O) (acc : List T) (accV : List V), Lc Γ F ρ1 H1 D ρ H' st accV ∧ RVs Γ (D :: F) ρ H' acc accV ∧ RE Γ (D :: F) ρ H' (wipeE σp vs) (wipe σ vs) ∧ SrcR Γ (D :: F) ρ H' src J ∧ LcEnd Γ F ρ1 H1 D (lcL2 src g c it1 vs1 g1 c1 elt (wipeE σp vs) m (i + 1) acc st) Q) (lcL src1 g1 c1 elt (wipeE σ1 vs1) k j acc st),
                  ⟨fuel, ρ4, st2, acc, accV, l4, p4.rvs l3.sr.rs ra3, (re3'.post l3.sr p4).wipe vs1, r4, ⟨re3.post l3.sr p4, sr3.post l3.sr p4⟩, ?_⟩, fun j k H w => ?_⟩
                · cases q5 : lcL src1 g1 c1 elt (wipeE σ1 vs1) fuel 0 acc st2 with
                  | ok acc' st3 =>
                    rw [q5] at h
                    exact fun ρ H accV l r pp => ⟨ρ, st3, acc', accV, l, r, pp.1, pp.2, h⟩
                  | exc e st3 => rw [q5] at h; exact h.elim
                  | no => rw [q5] at h; exact h.elim
                · exact lc_loopG (P := fun ρ H => RE Γ (D :: F) ρ H (wipeE σp vs) (wipe σ vs) ∧ SrcR Γ (D :: F) ρ H src J) hD (fun ρ H st ρ' H' st' s p ⟨a, b⟩ => ⟨a.post s p, b.post s p⟩) (fun ρ H H' k ⟨a, b⟩ => ⟨RE.grow (fun _ z => .inl z) .refl k a, SrcR.grow (fun _ z => .inl z) .refl k b⟩) hg1 ht1 he j k H w
theorem lc2_begin {src : Src} {J : It} {g g1 : AG} {c c1 : M Bool} {it1 : M Src} {elt : ME} {vs vs1 : List Nat} {σp : Ev} {σ : L2.St} {F ρ : List Addr} {H : Hp} {st : List O} {D : Addr} {Q : VK} {E : XK} (s : SR Γ F ρ H st) (re : RE Γ F ρ H σp σ) (sr : SrcR Γ F ρ H src J) (hD : H D = none)
    (h : Ran Γ F (RT Γ F) (match lcL2 src g c it1 vs1 g1 c1 elt (wipeE σp vs) fuel 0 [] st with | .ok acc st2 => .ok (.lst acc) st2 | _ => .no) ρ st H E Q) :
    ∃ (ρ' : List Addr) (st' : List O) (acc : List T) (accV : List V), Lc Γ F ρ H D ρ' (upd H D (.lst [])) st' accV ∧ RVs Γ (D :: F) ρ' (upd H D (.lst [])) acc accV ∧ RE Γ (D :: F) ρ' (upd H D (.lst [])) (wipeE σp vs) (wipe σ vs) ∧ SrcR Γ (D :: F) ρ' (upd H D (.lst [])) src J ∧ LcEnd Γ F ρ H D (lcL2 src g c it1 vs1 g1 c1 elt (wipeE σp vs) fuel 0 acc st') Q := by
  have hF : ∀ a ∈ D :: F, a ∈ F ∨ H a = none := fun a z => (List.mem_cons.mp z).elim (fun e => .inr (by rw [e]; exact hD)) .inl
  have hk : KeepW F ρ H (upd H D (.lst [])) := Keep.w (Same.keep (Same.upd hD))
  refine ⟨ρ, st, [], [], Lc.start s hD, rfl, (re.wipe vs).grow hF .refl hk, sr.grow hF .refl hk, ?_⟩
  cases q : lcL2 src g c it1 vs1 g1 c1 elt (wipeE σp vs) fuel 0 [] st with
  | no => rw [q] at h; exact h
  | exc e st1 => rw [q] at h; exact h
  | ok acc st1 =>
    rw [q] at h
    intro ρ' H' accV l r
    obtain ⟨p, rv⟩ := l.done s hD r
    exact h _ _ _ p rv
theorem sE_lc2 {tg iter elt tg1 iter1 : Expr} {ifs ifs1 : List Expr} {scope : Scope} {own : List (Str × Nat)} {pos : Pos} {it it1 : M Src} {g g1 : AG} {c c1 : M Bool} {m : ME} {vs vs1 : List Nat} (hi : SI Γ X W tg iter it) (hN : X.N.Nodup) (ok : BlkOk X.N X.env.scope scope own)
    (hg : ∀ (s : Shared) (H : Hp) (C : Addr) (cl : List (Str × Addr)) (fp : List Addr), SG Γ (X.blk s H scope (compEnvC scope cl C X.env) fp) vs tg g)
    (ht : ∀ (s : Shared) (H : Hp) (C : Addr) (cl : List (Str × Addr)) (fp : List Addr), STs Γ (X.blk s H scope (compEnvC scope cl C X.env) fp) ifs c)
    (hi1 : ∀ (s : Shared) (H : Hp) (C : Addr) (cl : List (Str × Addr)) (fp : List Addr), SI Γ (X.blk s H scope (compEnvC scope cl C X.env) fp) W0 tg1 iter1 it1)
    (hg1 : ∀ (s : Shared) (H : Hp) (C : Addr) (cl : List (Str × Addr)) (fp : List Addr), SG Γ (X.blk s H scope (compEnvC scope cl C X.env) fp) vs1 tg1 g1)
    (ht1 : ∀ (s : Shared) (H : Hp) (C : Addr) (cl : List (Str × Addr)) (fp : List Addr), STs Γ (X.blk s H scope (compEnvC scope cl C X.env) fp) ifs1 c1)
    (he : ∀ (s : Shared) (H : Hp) (C : Addr) (cl : List (Str × Addr)) (fp : List Addr), SE Γ (X.blk s H scope (compEnvC scope cl C X.env) fp) W0 elt m)
    (hsub : ∀ i ∈ vs1, i ∈ own.map (·.2) := by decide)
    (hv : own.map (·.2) = vs := by rfl) (hc : X.calm = true := by rfl) (hs : ∀ x, foldedSetIterable iter X.env x = pure x := by intro _; rfl) (hs1 : ∀ env x, foldedSetIterable iter1 env x = pure x := by intro _ _; rfl) : SE Γ X W (.ListComp elt [⟨tg, iter, ifs, 0⟩, ⟨tg1, iter1, ifs1, 0⟩] scope pos) (mLc2 it vs g c it1 vs1 g1 c1 m) :=
  (pe_lc2 hc hN hi ok hsub hg ht hi1 hg1 ht1 he hs hs1).imp fun σ H Q ⟨σp, F, ρ, st, s, re, h⟩ => by
    subst hv
    exact ⟨σp, F, ρ, st, s, re, Ran.bind s h fun src st1 J H1 ρ1 _ s1 p1 r1 h1 => fun D hD => ⟨_, ⟨fuel, lc2_begin s1 (re.post s p1) r1 hD h1⟩, fun i m H w => lc2_loop hD (fun _ _ _ _ z => z) (fun _ _ _ z => z) (fun _ _ _ z => z) (fun _ _ _ _ z => z) (fun _ _ _ z => z) (fun _ _ _ z => z) i m H w⟩⟩
theorem sS_setLc2 (i : Nat) {y : Str} {py : Pos} {tg iter elt tg1 iter1 : Expr} {ifs ifs1 : List Expr} {scope : Scope} {own : List (Str × Nat)} {pos spos : Pos} {it it1 : M Src} {g g1 : AG} {c c1 : M Bool} {m : ME} {vs vs1 : List Nat} (hi : SI Γ X W tg iter it) (hN : X.N.Nodup) (ok : BlkOk X.N X.env.scope scope own)
    (hg : ∀ (s : Shared) (H : Hp) (C : Addr) (cl : List (Str × Addr)) (fp : List Addr), SG Γ (X.blk s H scope (compEnvC scope cl C X.env) fp) vs tg g)
    (ht : ∀ (s : Shared) (H : Hp) (C : Addr) (cl : List (Str × Addr)) (fp : List Addr), STs Γ (X.blk s H scope (compEnvC scope cl C X.env) fp) ifs c)
    (hi1 : ∀ (s : Shared) (H : Hp) (C : Addr) (cl : List (Str × Addr)) (fp : List Addr), SI Γ (X.blk s H scope (compEnvC scope cl C X.env) fp) W0 tg1 iter1 it1)
    (hg1 : ∀ (s : Shared) (H : Hp) (C : Addr) (cl : List (Str × Addr)) (fp : List Addr), SG Γ (X.blk s H scope (compEnvC scope cl C X.env) fp) vs1 tg1 g1)
    (ht1 : ∀ (s : Shared) (H : Hp) (C : Addr) (cl : List (Str × Addr)) (fp : List Addr), STs Γ (X.blk s H scope (compEnvC scope cl C X.env) fp) ifs1 c1)
    (he : ∀ (s : Shared) (H : Hp) (C : Addr) (cl : List (Str × Addr)) (fp : List Addr), SE Γ (X.blk s H scope (compEnvC scope cl C X.env) fp) W0 elt m)
    (hsw : swapsWith (.ListComp elt [⟨tg, iter, ifs, 0⟩, ⟨tg1, iter1, ifs1, 0⟩] scope pos) (some (.Name y py)) spos.line X.env = pure true := by exact sw_true rfl rfl rfl (by decide +kernel))
    (hy : X.N[i]? = some y := by rfl) (hyl : X.env.scope.names.lookup y = some .local := by rfl)
    (hsub : ∀ i ∈ vs1, i ∈ own.map (·.2) := by decide)
    (hv : own.map (·.2) = vs := by rfl) (hc : X.calm = true := by rfl) (hs : ∀ x, foldedSetIterable iter X.env x = pure x := by intro _; rfl) (hs1 : ∀ env x, foldedSetIterable iter1 env x = pure x := by intro _ _; rfl) : SS Γ X W (.Assign [.Name y py] (.ListComp elt [⟨tg, iter, ifs, 0⟩, ⟨tg1, iter1, ifs1, 0⟩] scope pos) spos) (mSet i (mLc2 it vs g c it1 vs1 g1 c1 m)) :=
  (ps_setLc2 hc hN hy hyl hsw hi ok hsub hg ht hi1 hg1 ht1 he hs hs1).imp fun D σ H ⟨σp, F, ρ, st, s, re, h⟩ => by
    subst hv
    have g : tEv Γ (mLc2 it (own.map (·.2)) g c it1 vs1 g1 c1 m) W σ H (fun v H' => D.nx (σ.set i (some v)) H') := ⟨σp, F, ρ, st, s, re, RanS.lift s re h fun t st1 v H1 ρ1 s1 p1 re1 r1 h1 => h1 _ H1 ρ1 (.refl s1.rs) (re1.set r1)⟩
    obtain ⟨σp, F, ρ, st, s, re, h⟩ := g
    exact ⟨σp, F, ρ, st, s, re, Ran.bind s h fun src st1 J H1 ρ1 _ s1 p1 r1 h1 => fun D hD => ⟨_, ⟨fuel, lc2_begin s1 (re.post s p1) r1 hD h1⟩, fun i m H w => lc2_loop hD (fun _ _ _ _ z => z) (fun _ _ _ z => z) (fun _ _ _ z => z) (fun _ _ _ _ z => z) (fun _ _ _ z => z) (fun _ _ _ z => z) i m H w⟩⟩
/-! ### zip, enumerate, tuple(range(n)) -/
def mZip (a : M (List T)) : M Src := fun σ st => (a σ st).bind fun ts st1 => match ts with
  | [.tup xs, .tup ys] => .ok (.zipT xs ys) st1
  | [.lst xs, .lst ys] => .ok (.zipL xs ys) st1
  | [.lst xs, .tup ys] => .ok (.zipM xs ys) st1
  | [.tup xs, .lst ys] => .ok (.zipN xs ys) st1
  | _ => .no
theorem pi_zipX {e e2 : Expr} {ta : TA} {p pos tpos : Pos} {elts : List Expr} {kk : Nat} (hg : Gl X "zip") (hm : X.mg "zip" = none) (ha : PA X [e, e2] ta) (hs : starEach [e, e2] X.env = (false, eval e X.env) :: starEach [e2] X.env) (hpl : (backTo pos (starEach [e2] X.env)).any (·.1) = false) :
    PI X (.Tuple elts kk tpos) (.Call (.Name "zip" p) [e, e2] [] pos) (fun σ H R => iZipLL X.K ta σ H R ∨ iZipTT X.K ta σ H R ∨ iZipLT X.K ta σ H R ∨ iZipTL X.K ta σ H R) := by
  refine ⟨fun pins s σ H R I h => ?_⟩
  rcases h with h | h | h | h
  · exact (pi_zipLL hg hm ha hs hpl).run pins s σ H R I h
  · exact (pi_zipTT hg hm ha hs hpl).run pins s σ H R I h
  · exact (pi_zipLT hg hm ha hs hpl).run pins s σ H R I h
  · exact (pi_zipTL hg hm ha hs hpl).run pins s σ H R I h
theorem sI_zip {e e2 : Expr} {m : M (List T)} {p pos tpos : Pos} {elts : List Expr} {kk : Nat} (hK : X.K = Γ.K) (hm : X.mg "zip" = none) (ha : SA Γ X W [e, e2] m) (hg : Gl X "zip" := by rfl)
    (hs : starEach [e, e2] X.env = (false, eval e X.env) :: starEach [e2] X.env := by rfl) (hpl : (backTo pos (starEach [e2] X.env)).any (·.1) = false := by rfl) : SI Γ X W (.Tuple elts kk tpos) (.Call (.Name "zip" p) [e, e2] [] pos) (mZip m) :=
  PI.imp (pi_zipX hg hm ha hs hpl) fun σ H R ⟨σp, F, ρ, st, s, re, h⟩ => by
    unfold mZip at h
    cases q0 : m σp st with
    | no => rw [q0] at h; exact h.elim
    | exc e1 st1 => rw [q0] at h; exact .inl ⟨σp, F, ρ, st, s, re, by rw [q0]; exact h⟩
    | ok ts0 st0 =>
      have sh : (∃ xs ys, ts0 = [.lst xs, .lst ys]) ∨ (∃ xs ys, ts0 = [.tup xs, .tup ys]) ∨ (∃ xs ys, ts0 = [.lst xs, .tup ys]) ∨ (∃ xs ys, ts0 = [.tup xs, .lst ys]) ∨ Ran Γ F (fun _ _ _ (_ : Src) (_ : It) => True) (.no : Rs Src) ρ st H (fun _ _ _ => False) (fun _ _ => False) := by
        rw [q0] at h
        simp only [Rs.bind] at h
        split at h
        · exact .inr (.inl ⟨_, _, rfl⟩)
        · exact .inl ⟨_, _, rfl⟩
        · exact .inr (.inr (.inl ⟨_, _, rfl⟩))
        · exact .inr (.inr (.inr (.inl ⟨_, _, rfl⟩)))
        · exact h.elim
      rcases sh with ⟨xs, ys, e0⟩ | ⟨xs, ys, e0⟩ | ⟨xs, ys, e0⟩ | ⟨xs, ys, e0⟩ | no
      · refine .inl ⟨σp, F, ρ, st, s, re, Ran.bind s h fun ts st1 vs H1 ρ1 eq s1 p1 r1 h1 => ?_⟩
        rw [q0, e0] at eq
        cases eq
        obtain ⟨x, xr, rfl, ra, r1⟩ := r1
        obtain ⟨y, yr, rfl, rb, r1⟩ := r1
        have e0 : yr = [] := r1
        subst e0
        have ra' := ra
        have rb' := rb
        obtain ⟨a, vs, rfl, _, _, q1, q2⟩ := ra
        obtain ⟨b, ws, rfl, _, _, q3, q4⟩ := rb
        exact ⟨a, b, vs, ws, rfl, .of q1, .of q3, by rw [hK]; exact Ran.done s1 h1 ⟨a, b, rfl, ra', rb'⟩⟩
      · refine .inr <| .inl ⟨σp, F, ρ, st, s, re, Ran.bind s h fun ts st1 vs H1 ρ1 eq s1 p1 r1 h1 => ?_⟩
        rw [q0, e0] at eq
        cases eq
        obtain ⟨x, xr, rfl, ra, r1⟩ := r1
        obtain ⟨y, yr, rfl, rb, r1⟩ := r1
        have e0 : yr = [] := r1
        subst e0
        have ra' := ra
        have rb' := rb
        obtain ⟨a, vs, rfl, q1, q2⟩ := ra
        obtain ⟨b, ws, rfl, q3, q4⟩ := rb
        exact ⟨a, b, vs, ws, rfl, by rw [hK]; exact tupK_sq q1, by rw [hK]; exact tupK_sq q3, by rw [hK]; exact Ran.done s1 h1 ⟨a, b, rfl, ra', rb'⟩⟩
      · refine .inr <| .inr <| .inl ⟨σp, F, ρ, st, s, re, Ran.bind s h fun ts st1 vs H1 ρ1 eq s1 p1 r1 h1 => ?_⟩
        rw [q0, e0] at eq
        cases eq
        obtain ⟨x, xr, rfl, ra, r1⟩ := r1
        obtain ⟨y, yr, rfl, rb, r1⟩ := r1
        have e0 : yr = [] := r1
        subst e0
        have ra' := ra
        have rb' := rb
        obtain ⟨a, vs, rfl, _, _, q1, q2⟩ := ra
        obtain ⟨b, ws, rfl, q3, q4⟩ := rb
        exact ⟨a, b, vs, ws, rfl, .of q1, by rw [hK]; exact tupK_sq q3, by rw [hK]; exact Ran.done s1 h1 ⟨a, b, rfl, ra', rb'⟩⟩
      · refine .inr <| .inr <| .inr ⟨σp, F, ρ, st, s, re, Ran.bind s h fun ts st1 vs H1 ρ1 eq s1 p1 r1 h1 => ?_⟩
        rw [q0, e0] at eq
        cases eq
        obtain ⟨x, xr, rfl, ra, r1⟩ := r1
        obtain ⟨y, yr, rfl, rb, r1⟩ := r1
        have e0 : yr = [] := r1
        subst e0
        have ra' := ra
        have rb' := rb
        obtain ⟨a, vs, rfl, q1, q2⟩ := ra
        obtain ⟨b, ws, rfl, _, _, q3, q4⟩ := rb
        exact ⟨a, b, vs, ws, rfl, by rw [hK]; exact tupK_sq q1, .of q3, by rw [hK]; exact Ran.done s1 h1 ⟨a, b, rfl, ra', rb'⟩⟩
      · exact no.elim
def mEnum (a : M (List T)) : M Src := fun σ st => (a σ st).bind fun ts st1 => match ts with
  | [.lst xs] => .ok (.enumL xs) st1
  | [.tup xs] => .ok (.enumT xs) st1
  | _ => .no
theorem pi_enumX {e : Expr} {ta : TA} {p pos tpos : Pos} {elts : List Expr} {kk : Nat} (hg : Gl X "enumerate") (hm : X.mg "enumerate" = none) (ha : PA X [e] ta) (hs : starEach [e] X.env = [(false, eval e X.env)]) :
    PI X (.Tuple elts kk tpos) (.Call (.Name "enumerate" p) [e] [] pos) (fun σ H R => iEnumL X.K ta σ H R ∨ iEnumT X.K ta σ H R) := by
  refine ⟨fun pins s σ H R I h => ?_⟩
  rcases h with h | h
  · exact (pi_enumL hg hm ha hs).run pins s σ H R I h
  · exact (pi_enumT hg hm ha hs).run pins s σ H R I h
theorem sI_enum {e : Expr} {m : M (List T)} {p pos tpos : Pos} {elts : List Expr} {kk : Nat} (hK : X.K = Γ.K) (hm : X.mg "enumerate" = none) (ha : SA Γ X W [e] m) (hg : Gl X "enumerate" := by rfl) (hs : starEach [e] X.env = [(false, eval e X.env)] := by rfl) : SI Γ X W (.Tuple elts kk tpos) (.Call (.Name "enumerate" p) [e] [] pos) (mEnum m) :=
  PI.imp (pi_enumX hg hm ha hs) fun σ H R ⟨σp, F, ρ, st, s, re, h⟩ => by
    unfold mEnum at h
    cases q0 : m σp st with
    | no => rw [q0] at h; exact h.elim
    | exc e1 st1 => rw [q0] at h; exact .inl ⟨σp, F, ρ, st, s, re, by rw [q0]; exact h⟩
    | ok ts0 st0 =>
      have sh : (∃ xs, ts0 = [.lst xs]) ∨ (∃ xs, ts0 = [.tup xs]) ∨ Ran Γ F (fun _ _ _ (_ : Src) (_ : It) => True) (.no : Rs Src) ρ st H (fun _ _ _ => False) (fun _ _ => False) := by
        rw [q0] at h
        simp only [Rs.bind] at h
        split at h
        · exact .inl ⟨_, rfl⟩
        · exact .inr (.inl ⟨_, rfl⟩)
        · exact h.elim
      rcases sh with ⟨xs, e0⟩ | ⟨xs, e0⟩ | no
      · refine .inl ⟨σp, F, ρ, st, s, re, Ran.bind s h fun ts st1 vs H1 ρ1 eq s1 p1 r1 h1 => ?_⟩
        rw [q0, e0] at eq
        cases eq
        obtain ⟨x, xr, rfl, ra, r1⟩ := r1
        have e0 : xr = [] := r1
        subst e0
        have ra' := ra
        obtain ⟨a, vs, rfl, _, _, q1, q2⟩ := ra
        exact ⟨a, vs, rfl, .of q1, by rw [hK]; exact Ran.done s1 h1 ⟨a, rfl, ra'⟩⟩
      · refine .inr ⟨σp, F, ρ, st, s, re, Ran.bind s h fun ts st1 vs H1 ρ1 eq s1 p1 r1 h1 => ?_⟩
        rw [q0, e0] at eq
        cases eq
        obtain ⟨x, xr, rfl, ra, r1⟩ := r1
        have e0 : xr = [] := r1
        subst e0
        have ra' := ra
        obtain ⟨a, vs, rfl, q1, q2⟩ := ra
        exact ⟨a, vs, rfl, by rw [hK]; exact tupK_sq q1, by rw [hK]; exact Ran.done s1 h1 ⟨a, rfl, ra'⟩⟩
      · exact no.elim
def rgT (n : Nat) : List T := (List.range n).map fun i => T.int (Int.ofNat i)
def mTupRg (a : ME) : ME := fun σ st => (a σ st).bind fun t st1 => match t with
  | .int n => match decide (0 ≤ n) && decide (n ≤ 16777216) with
    | true => .ok (.tup (rgT n.toNat)) st1
    | false => .no
  | _ => .no
theorem rgT_rv {F ρ : List Addr} {H : Hp} {n : Int} (h0 : 0 ≤ n) : RVs Γ F ρ H (rgT n.toNat) (rgV 0 n) := by
  unfold rgT rgV
  have : (n - 0).toNat = n.toNat := by simp
  rw [this]
  induction (List.range n.toNat) with
  | nil => exact rfl
  | cons x r ih => exact ⟨_, _, rfl, show V.int (0 + (x : Int)) = V.int (x : Int) by rw [Int.zero_add], ih⟩
theorem sE_tupRg {e : Expr} {a : ME} {p q pos pos2 : Pos} (hm : X.mg "tuple" = none) (hm2 : X.mg "range" = none) (ha : SE Γ X W e a) (hc : X.calm = true := by rfl) (hg : Gl X "tuple" := by rfl) (hg2 : Gl X "range" := by rfl)
    (na : starEach [e] X.env = (false, eval e X.env) :: starEach [] X.env := by rfl) (na2 : starEach [.Call (.Name "range" q) [e] [] pos2] X.env = (false, eval (.Call (.Name "range" q) [e] [] pos2) X.env) :: starEach [] X.env := by rfl) : SE Γ X W (.Call (.Name "tuple" p) [.Call (.Name "range" q) [e] [] pos2] [] pos) (mTupRg a) :=
  (pe_tupRgF hc hg hm (prg_1 hg2 hm2 ha na) na2).imp fun σ H Q ⟨σp, F, ρ, st, s, re, h⟩ => ⟨σp, F, ρ, st, s, re, Ran.bind s h fun t st1 v H1 ρ1 _ s1 p1 r1 h1 => by
    cases t with
    | int n =>
      simp only at h1
      cases q : (decide (0 ≤ n) && decide (n ≤ 16777216)) with
      | false => rw [q] at h1; exact h1.elim
      | true =>
        rw [q] at h1
        simp only [Bool.and_eq_true, decide_eq_true_eq] at q
        exact ⟨n, r1, .of_le (Int.le_refl 0) q.2 (by omega) q.1, fun p ob hp ho => Ran.ends h1 (.laid s1.rs hp) (RV.tupNew s1 hp ho (rgT_rv q.1))⟩
    | _ => exact h1.elim⟩
end
end WR
namespace WR
open PySem PySem.Spec PyProof.Rows L2
section
variable {Γ : Gam} {X : Cx}
/-! ### a comprehension's list as one's own object -/
theorem Lc.own {F ρ1 ρ : List Addr} {H1 H : Hp} {D : Addr} {st st' : List O} {accV : List V} (l : Lc Γ F ρ1 H1 D ρ H st accV) (hD : H1 D = none) {acc : List T} (r : RVs Γ (D :: F) ρ H acc accV) : Post Γ F ρ1 H1 (ρ ++ [D]) (st ++ [.lst acc]) H := by
  have np : D ∉ ρ := l.sr.dis D List.mem_cons_self
  refine ⟨?_, l.kp, ⟨by simp [l.sr.rs.len], ?_, fun n ob a e1 e2 => ?_⟩⟩
  · obtain ⟨n, e, h⟩ := l.gr
    refine ⟨n ++ [D], by rw [e, List.append_assoc], fun a ha => ?_⟩
    rcases List.mem_append.mp ha with ha | ha
    · exact h a ha
    · rw [List.mem_singleton.mp ha]; exact hD
  · rw [List.nodup_append]
    exact ⟨l.sr.rs.nd, by simp, fun a ha b hb => by rw [List.mem_singleton.mp hb]; exact fun z => np (z ▸ ha)⟩
  · by_cases hn : n < st.length
    · rw [List.getElem?_append_left hn] at e1
      rw [List.getElem?_append_left (by rw [l.sr.rs.len]; exact hn)] at e2
      exact RO.move (mv_own np) KeepW.refl (fun u z => z) (l.sr.rs.at_ n ob a e1 e2)
    · have hl : n = st.length := by
        have := (List.getElem?_eq_some_iff.mp e1).1
        simp at this; omega
      subst hl
      rw [List.getElem?_append_right (by rw [l.sr.rs.len]; exact Nat.le_refl _)] at e2
      simp [l.sr.rs.len] at e1 e2
      subst e1; subst e2
      exact ⟨accV, l.at_, RVs.move (mv_own np) KeepW.refl _ _ r⟩
def mLcM (it : M Src) (vs : List Nat) (g : AG) (c : M Bool) (elt : ME) : ME := fun σ st => (it σ st).bind fun src st1 => match lcL src g c elt (wipeE σ vs) fuel 0 [] st1 with
  | .ok acc st2 => .ok (.ref st2.length) (st2 ++ [.lst acc])
  | _ => .no
theorem lc_beginM {src : Src} {J : It} {g : AG} {c : M Bool} {elt : ME} {vs : List Nat} {σp : Ev} {σ : L2.St} {F ρ : List Addr} {H : Hp} {st : List O} {D : Addr} {Q : VK} {E : XK} (s : SR Γ F ρ H st) (re : RE Γ F ρ H σp σ) (sr : SrcR Γ F ρ H src J) (hD : H D = none)
    (h : Ran Γ F (RT Γ F) (match lcL src g c elt (wipeE σp vs) fuel 0 [] st with | .ok acc st2 => .ok (.ref st2.length) (st2 ++ [.lst acc]) | _ => .no) ρ st H E Q) :
    ∃ (ρ' : List Addr) (st' : List O) (acc : List T) (accV : List V), Lc Γ F ρ H D ρ' (upd H D (.lst [])) st' accV ∧ RVs Γ (D :: F) ρ' (upd H D (.lst [])) acc accV ∧ RE Γ (D :: F) ρ' (upd H D (.lst [])) (wipeE σp vs) (wipe σ vs) ∧ SrcR Γ (D :: F) ρ' (upd H D (.lst [])) src J ∧ LcEnd Γ F ρ H D (lcL src g c elt (wipeE σp vs) fuel 0 acc st') Q := by
  have hF : ∀ a ∈ D :: F, a ∈ F ∨ H a = none := fun a z => (List.mem_cons.mp z).elim (fun e => .inr (by rw [e]; exact hD)) .inl
  have hk : KeepW F ρ H (upd H D (.lst [])) := Keep.w (Same.keep (Same.upd hD))
  refine ⟨ρ, st, [], [], Lc.start s hD, rfl, (re.wipe vs).grow hF .refl hk, sr.grow hF .refl hk, ?_⟩
  cases q : lcL src g c elt (wipeE σp vs) fuel 0 [] st with
  | no => rw [q] at h; exact h
  | exc e st1 => rw [q] at h; exact h
  | ok acc st1 =>
    rw [q] at h
    intro ρ' H' accV l r
    exact h _ _ _ (l.own (st' := st) hD r) ⟨D, rfl, by rw [← l.sr.rs.len]; simp⟩
variable {W : WX}
theorem tLcM_imp {wi : TI} {it : M Src} {g : AG} {gt : TG} {c : M Bool} {tt : TT} {elt : ME} {te : TE} {vs : List Nat} {σ : L2.St} {H : Hp} {Q : VK} (hi : ∀ σ H R, tIv Γ it W σ H R → wi σ H R)
    (hg : ∀ v σ H Q, tGv Γ g vs v σ H Q → gt v σ H Q) (ht : ∀ σ H Q, tTv Γ c W0 σ H Q → tt σ H Q) (he : ∀ σ H Q, tEv Γ elt W0 σ H Q → te σ H Q) (h : tEv Γ (mLcM it vs g c elt) W σ H Q) : tLc wi gt tt te vs σ H Q := by
  obtain ⟨σp, F, ρ, st, s, re, h⟩ := h
  refine hi _ _ _ ⟨σp, F, ρ, st, s, re, Ran.bind s h fun src st1 J H1 ρ1 _ s1 p1 r1 h1 => fun D hD => ⟨_, ⟨fuel, lc_beginM s1 (re.post s p1) r1 hD h1⟩, fun i m H w => lc_loop hD hg ht he i m H w⟩⟩
theorem sE_lcM {tg iter elt : Expr} {ifs : List Expr} {scope : Scope} {own : List (Str × Nat)} {pos : Pos} {it : M Src} {g : AG} {c : M Bool} {m : ME} {vs : List Nat} (hi : SI Γ X W tg iter it) (hN : X.N.Nodup) (ok : BlkOk X.N X.env.scope scope own)
    (hg : ∀ (s : Shared) (H : Hp) (C : Addr) (cl : List (Str × Addr)) (fp : List Addr), SG Γ (X.blk s H scope (compEnvC scope cl C X.env) fp) vs tg g)
    (ht : ∀ (s : Shared) (H : Hp) (C : Addr) (cl : List (Str × Addr)) (fp : List Addr), STs Γ (X.blk s H scope (compEnvC scope cl C X.env) fp) ifs c)
    (he : ∀ (s : Shared) (H : Hp) (C : Addr) (cl : List (Str × Addr)) (fp : List Addr), SE Γ (X.blk s H scope (compEnvC scope cl C X.env) fp) W0 elt m)
    (hv : own.map (·.2) = vs := by rfl) (hc : X.calm = true := by rfl) (hs : ∀ x, foldedSetIterable iter X.env x = pure x := by intro _; rfl) : SE Γ X W (.ListComp elt [⟨tg, iter, ifs, 0⟩] scope pos) (mLcM it vs g c m) :=
  (pe_lc hc hN hi ok hg ht he hs).imp fun σ H Q h => by
    subst hv
    exact tLcM_imp (fun _ _ _ z => z) (fun _ _ _ _ z => z) (fun _ _ _ z => z) (fun _ _ _ z => z) h
theorem sS_setLcM (i : Nat) {y : Str} {py : Pos} {tg iter elt : Expr} {ifs : List Expr} {scope : Scope} {own : List (Str × Nat)} {pos spos : Pos} {it : M Src} {g : AG} {c : M Bool} {m : ME} {vs : List Nat} (hi : SI Γ X W tg iter it) (hN : X.N.Nodup) (ok : BlkOk X.N X.env.scope scope own)
    (hg : ∀ (s : Shared) (H : Hp) (C : Addr) (cl : List (Str × Addr)) (fp : List Addr), SG Γ (X.blk s H scope (compEnvC scope cl C X.env) fp) vs tg g)
    (ht : ∀ (s : Shared) (H : Hp) (C : Addr) (cl : List (Str × Addr)) (fp : List Addr), STs Γ (X.blk s H scope (compEnvC scope cl C X.env) fp) ifs c)
    (he : ∀ (s : Shared) (H : Hp) (C : Addr) (cl : List (Str × Addr)) (fp : List Addr), SE Γ (X.blk s H scope (compEnvC scope cl C X.env) fp) W0 elt m)
    (hsw : swapsWith (.ListComp elt [⟨tg, iter, ifs, 0⟩] scope pos) (some (.Name y py)) spos.line X.env = pure true := by exact sw_true rfl rfl rfl (by decide +kernel))
    (hy : X.N[i]? = some y := by rfl) (hyl : X.env.scope.names.lookup y = some .local := by rfl)
    (hv : own.map (·.2) = vs := by rfl) (hc : X.calm = true := by rfl) (hs : ∀ x, foldedSetIterable iter X.env x = pure x := by intro _; rfl) : SS Γ X W (.Assign [.Name y py] (.ListComp elt [⟨tg, iter, ifs, 0⟩] scope pos) spos) (mSet i (mLcM it vs g c m)) :=
  (ps_setLc hc hN hy hyl hsw hi ok hg ht he hs).imp fun D σ H ⟨σp, F, ρ, st, s, re, h⟩ => by
    subst hv
    exact tLcM_imp (W := W) (fun _ _ _ z => z) (fun _ _ _ _ z => z) (fun _ _ _ z => z) (fun _ _ _ z => z) ⟨σp, F, ρ, st, s, re, RanS.lift s re h fun t st1 v H1 ρ1 s1 p1 re1 r1 h1 => h1 _ H1 ρ1 (.refl s1.rs) (re1.set r1)⟩

/-! ### a call by keywords alone -/
def SKw (Γ : Gam) (X : Cx) (W : WX) (kws : List Keyword) (m : M (List T)) : Prop := PK X kws (tAv Γ m W)
theorem PK.imp {kws : List Keyword} {t t' : TA} (h : PK X kws t) (i : ∀ σ H Q, t' σ H Q → t σ H Q) : PK X kws t' := ⟨fun pos pins s σ H Q I q => h.run pos pins s σ H Q I (i σ H Q q)⟩
theorem sK_nil : SKw Γ X W [] mNil := PK.imp pk_nil fun σ H Q ⟨σp, F, ρ, st, s, re, h⟩ => Ran.done s h rfl
theorem sK_cons {e : Expr} {kws : List Keyword} {nm : Option Str} {kpos : Pos} {a : ME} {m : M (List T)} (ha : SE Γ X W e a) (hr : SKw Γ X W kws m) : SKw Γ X W (⟨nm, e, kpos⟩ :: kws) (mCons a m) :=
  PK.imp (pk_cons ha hr) fun σ H Q ⟨σp, F, ρ, st, s, re, h⟩ => ⟨σp, F, ρ, st, s, re, Ran.bind s h fun t st1 v H1 ρ1 _ s1 p1 r1 h1 =>
    ⟨σp, F, ρ1, st1, s1, re.post s p1, Ran.bind s1 h1 fun ts st2 vs H2 ρ2 _ s2 p2 r2 h2 => Ran.done s2 h2 ⟨v, vs, rfl, p2.rv s1.rs r1, r2⟩⟩⟩
def permT {α : Type} (ix : List Nat) (xs : List α) : List α := ix.filterMap fun i => xs[i]?
def mPerm (ix : List Nat) (m : M (List T)) : M (List T) := fun σ st => (m σ st).bind fun ts st1 => .ok (permT ix ts) st1
theorem permT_rvs {F ρ : List Addr} {H : Hp} {ts : List T} {vs : List V} (r : RVs Γ F ρ H ts vs) : ∀ ix : List Nat, RVs Γ F ρ H (permT ix ts) (permT ix vs)
  | [] => rfl
  | i :: ix => by
    have ih := permT_rvs r ix
    unfold permT at ih ⊢
    cases q : ts[i]? with
    | none =>
      have q2 : vs[i]? = none := by
        rw [List.getElem?_eq_none_iff, ← r.length]; exact List.getElem?_eq_none_iff.mp q
      rw [List.filterMap_cons_none q, List.filterMap_cons_none q2]; exact ih
    | some t =>
      obtain ⟨v, e, rv⟩ := r.get q
      rw [List.filterMap_cons_some q, List.filterMap_cons_some e]
      exact ⟨v, _, rfl, rv, ih⟩
theorem permT_vals {vs : List V} {us : List Value} (r : Vals vs us) : ∀ ix : List Nat, Vals (permT ix vs) (permT ix us)
  | [] => .nil
  | i :: ix => by
    have ih := permT_vals r ix
    unfold permT at ih ⊢
    have gt : ∀ {vs : List V} {us : List Value} (i : Nat), Vals vs us → (vs[i]? = none ∧ us[i]? = none) ∨ ∃ v u, vs[i]? = some v ∧ us[i]? = some u ∧ RelV v u := by
      intro vs us i r
      induction r generalizing i with
      | nil => exact .inl ⟨by simp, by simp⟩
      | cons h t ih =>
        cases i with
        | zero => exact .inr ⟨_, _, rfl, rfl, h⟩
        | succ i => simpa using ih i
    rcases gt i r with ⟨e1, e2⟩ | ⟨v, u, e1, e2, rv⟩
    · rw [List.filterMap_cons_none e1, List.filterMap_cons_none e2]; exact ih
    · rw [List.filterMap_cons_some e1, List.filterMap_cons_some e2]; exact .cons rv ih
/-- how the keywords ks bind the parameters ps -/
def KwTo (K : PySem.W.Frag) (fd : FuncData) (ps ks : List Str) (ix : List Nat) : Prop := ∀ (s : Shared) (ws : List Value), K.In s.heap → ws.length = ks.length → BindsTo s fd ⟨[], ks.zip ws⟩ (ps.zip (permT ix ws))
theorem sE_callK0 {k : Nat} {f : Addr} {fd : FuncData} {ps ks : List Str} {ix : List Nat} {x : Str} {p pos : Pos} {kws : List Keyword} {n nk : Nat} {m : MF} {ma : M (List T)} (G : FnOk X.prog X.w X.K X.mg X.base (L2.CX X.prog X.w) k f fd ps (spOf Γ n m)) (tk : Takes X W) (hr : Room k X.A) (hm : X.mg x = some (.ref f)) (hk : PySem.W.keepIn X.K (.ref f) = true)
    (hb : KwTo X.K fd ps ks ix) (hkw : SKw Γ X W kws ma) (hnk : ks.length = nk := by rfl) (hg : Gl X x := by rfl) (hall : (backToKw pos (keywordEach kws X.env)).all (·.1.isSome) = true := by rfl) (hks : (backToKw pos (keywordEach kws X.env)).filterMap (·.1) = ks := by rfl) (hdb : (x == ("__debug__" : Str)) = false := by decide)
    (hpl : ((backTo pos (starEach [] X.env)).any (·.1) || (backToKw pos (keywordEach kws X.env)).any (·.1.isNone)) = false := by rfl) :
    SE Γ X W (.Call (.Name x p) [] kws pos) (fun σ st => (ma σ st).bind fun ts st1 => match Nat.beq ts.length nk, Nat.beq (permT ix ts).length n with
      | true, true => m (permT ix ts) st1
      | _, _ => .no) := by
  refine ⟨fun pins s σ H Q I h => ?_⟩
  refine wpAny_Call_Name_kw (ld_glob I hg hm ?_ hdb)
  refine PySem.W.callWith_KW0 (h₀ := X.base) I.ok.mod.kin hk hall ?_ hpl
  obtain ⟨σp, F, ρ, st, sr, re, h⟩ := h
  have hA : tAv Γ ma W σ H (fun zs H2 => zs.length = ks.length ∧ spOf Γ n m (permT ix zs) H2 Q (WE W σ)) := ⟨σp, F, ρ, st, sr, re, Ran.bind sr h fun ts st1 vs H1 ρ1 _ s1 p1 r1 h1 => by
    split at h1
    · rename_i e1 e2
      exact ⟨by rw [hnk, ← r1.length]; exact Nat.eq_of_beq_eq_true e1, _, F, ρ1, st1, s1, permT_rvs r1 ix, Nat.eq_of_beq_eq_true e2, h1⟩
    · exact h1.elim⟩
  refine thn (hkw.run pos pins s σ H _ I hA) fun ws s2 ⟨zs, H2, I2, rz, l2, q2⟩ => ⟨I2.kIn, ?_⟩
  rw [hks]
  have rz2 := permT_vals rz ix
  refine wpAny_call (codeAny_mono (G.run X.A X.stack s2 H2 ⟨[], ks.zip ws⟩ (permT ix ws) (permT ix zs) Q (WE W σ) hr I2.env0 (hb s2 ws I2.kIn (rz.length.symm.trans l2)) rz2 q2) fun r s' hq => ?_)
  cases r with
  | error e => exact passAt tk σ pins H2 s2 e s' I2 hq
  | ok fl =>
    cases fl with
    | ret u => exact I2.after hq
    | next => exact False.elim hq
    | brk => exact False.elim hq
    | cont => exact False.elim hq
end
end WR
namespace WR
open PySem PySem.Spec PyProof.Rows L2
/-! ### instances: fields -/
def lookF : List Str → List T → Str → Option T
  | f :: fs, v :: vs, g => match decide (f = g) with
    | true => some v
    | false => lookF fs vs g
  | _, _, _ => none
def putV : List Str → List T → Str → T → List T
  | f :: fs, v :: vs, g, y => match decide (f = g) with
    | true => y :: vs
    | false => v :: putV fs vs g y
  | [], _, _, y => [y]
  | _, _, _, _ => []
def putN : List Str → Str → List Str
  | f :: fs, g => match decide (f = g) with
    | true => f :: fs
    | false => f :: putN fs g
  | [], g => [g]
def insT (st : List O) : T → Option (Nat × List Str × List T)
  | .ins c fs vs => some (c, fs, vs)
  | .ref n => match st[n]? with
    | some (.ins c fs vs) => some (c, fs, vs)
    | _ => none
  | _ => none
section
variable {Γ : Gam} {F ρ : List Addr} {H : Hp} {st : List O}
theorem lookF_ok {g : Str} : ∀ {fvs : List (Str × V)} {vs : List T}, RVs Γ F ρ H vs (fvs.map (·.2)) → (∀ t, lookF (fvs.map (·.1)) vs g = some t → ∃ v, fvs.lookup g = some v ∧ RV Γ F ρ H t v) ∧ (lookF (fvs.map (·.1)) vs g = none → fvs.lookup g = none)
  | [], vs, r => ⟨fun t e => by simp [lookF] at e, fun _ => rfl⟩
  | (f, w) :: fvs, [], r => by simp [RVs] at r
  | (f, w) :: fvs, y :: ys, r => by
    obtain ⟨v, vr, e, r1, r2⟩ := r
    simp only [List.map_cons, List.cons.injEq] at e
    obtain ⟨e1, e2⟩ := e
    subst e1; subst e2
    obtain ⟨i1, i2⟩ := lookF_ok (g := g) r2
    by_cases h : f = g
    · subst h
      constructor
      · intro t e
        simp only [List.map_cons, lookF, decide_true] at e
        cases e
        exact ⟨w, by simp [List.lookup], r1⟩
      · intro e; simp [lookF] at e
    · have hb : (g == f) = false := by simpa using fun z => h z.symm
      constructor
      · intro t e
        simp only [List.map_cons, lookF, decide_eq_false h] at e
        obtain ⟨v, e3, r3⟩ := i1 t e
        exact ⟨v, by rw [List.lookup, hb]; exact e3, r3⟩
      · intro e
        simp only [List.map_cons, lookF, decide_eq_false h] at e
        rw [List.lookup, hb]; exact i2 e
theorem putF_ok {g : Str} {y : T} {w : V} (ry : RV Γ F ρ H y w) : ∀ {fvs : List (Str × V)} {vs : List T}, RVs Γ F ρ H vs (fvs.map (·.2)) → (putF g w fvs).map (·.1) = putN (fvs.map (·.1)) g ∧ RVs Γ F ρ H (putV (fvs.map (·.1)) vs g y) ((putF g w fvs).map (·.2))
  | [], vs, r => ⟨rfl, ⟨_, _, rfl, ry, rfl⟩⟩
  | (f, u) :: fvs, [], r => by simp [RVs] at r
  | (f, u) :: fvs, z :: zs, r => by
    obtain ⟨v, vr, e, r1, r2⟩ := r
    simp only [List.map_cons, List.cons.injEq] at e
    obtain ⟨e1, e2⟩ := e
    subst e1; subst e2
    obtain ⟨i1, i2⟩ := putF_ok (g := g) ry r2
    by_cases h : f = g
    · subst h
      refine ⟨?_, ?_⟩
      · simp [putF, putN]
      · simp only [List.map_cons, putV, decide_true, putF, if_true]
        exact ⟨_, _, rfl, ry, r2⟩
    · refine ⟨?_, ?_⟩
      · simp [putF, putN, h, i1]
      · simp only [List.map_cons, putV, decide_eq_false h, putF, if_neg h]
        exact ⟨_, _, rfl, r1, i2⟩
theorem RO.inst' {c : Nat} {fs : List Str} {xs : List T} {a : Addr} (h : RO Γ F ρ H (.ins c fs xs) a) : ∃ (dx : Addr) (fvs : List (Str × V)), H a = some (.ins (Γ.cad c) dx fvs) ∧ fvs.map (·.1) = fs ∧ RVs Γ F ρ H xs (fvs.map (·.2)) := h
theorem insT_ok {a : T} {x : V} {c : Nat} {fs : List Str} {xs : List T} (s : RS Γ F ρ H st) (e : insT st a = some (c, fs, xs)) (r : RV Γ F ρ H a x) : ∃ (p dx : Addr) (fvs : List (Str × V)), x = .ref p ∧ H p = some (.ins (Γ.cad c) dx fvs) ∧ fvs.map (·.1) = fs ∧ RVs Γ F ρ H xs (fvs.map (·.2)) := by
  cases a with
  | ins c' ks ys => cases e; obtain ⟨p, dx, fvs, rfl, _, _, h1, h2, h3⟩ := r; exact ⟨p, dx, fvs, rfl, h1, h2, h3⟩
  | ref n =>
    obtain ⟨p, rfl, h1⟩ := r
    simp only [insT] at e
    cases q : st[n]? with
    | none => rw [q] at e; cases e
    | some o =>
      cases o with
      | ins c' ks ys => rw [q] at e; cases e; obtain ⟨dx, fvs, h3, h4, h2⟩ := RO.inst' (s.at_ n _ p q h1); exact ⟨p, dx, fvs, rfl, h3, h4, h2⟩
      | _ => rw [q] at e; cases e
  | _ => simp [insT] at e
end
section
variable {Γ : Gam} {X : Cx} {W : WX}
/-- e.f, e of the class c or an exception of the class d -/
def fldT (c : Nat) (f : Str) (a : T) (st : List O) : Rs T := match insT st a with
  | some (k, fs, vs) => match Nat.beq k c with
    | true => match lookF fs vs f with
      | some t => .ok t st
      | none => .no
    | false => .no
  | none => .no
def mUn (f : T → List O → Rs T) (a : ME) : ME := fun σ st => (a σ st).bind fun x st1 => f x st1
theorem sE_fld (c : Nat) {e : Expr} {f : Str} {a : ME} {pos : Pos} (hK : X.K = Γ.K) (hc : Cls Γ.K (Γ.cad c)) (hn : NoAttr Γ.K (Γ.cad c) f) (he : SE Γ X W e a) (hb : attributeBase e f X.env (eval e X.env) = eval e X.env := by rfl) : SE Γ X W (.Attribute e f pos) (mUn (fldT c f) a) :=
  (pe_fld he hb).imp fun σ H Q ⟨σp, F, ρ, st, s, re, h⟩ => ⟨σp, F, ρ, st, s, re, Ran.bind s h fun t st1 v H1 ρ1 _ s1 p1 r1 h1 => by
    unfold fldT at h1
    split at h1
    · rename_i k fs vs e1
      split at h1
      · rename_i e2
        split at h1
        · rename_i y e3
          obtain ⟨p, dx, fvs, rfl, g1, g2, g3⟩ := insT_ok s1.rs e1 r1
          have e4 := Nat.eq_of_beq_eq_true e2
          subst e4
          subst g2
          obtain ⟨w, g4, g5⟩ := (lookF_ok g3).1 y e3
          exact ⟨p, _, dx, fvs, w, rfl, g1, by rw [hK]; exact hc, by rw [hK]; exact hn, g4, Ran.done s1 h1 g5⟩
        · exact h1.elim
      · exact h1.elim
    · exact h1.elim⟩
/-- e.f, e an exception that was caught -/
def xfldT (c : Nat) (f : Str) (a : T) (st : List O) : Rs T := match a with
  | .exc k fs vs => match Nat.beq k c with
    | true => match lookF fs vs f with
      | some t => .ok t st
      | none => .no
    | false => .no
  | _ => .no
theorem sE_xfld (c : Nat) {e : Expr} {f : Str} {a : ME} {pos : Pos} (hK : X.K = Γ.K) (hc : XfC Γ.K (Γ.cad c)) (hn : PySem.W.findIn Γ.K (.ref (Γ.cad c)) f = some none) (he : SE Γ X W e a) (hb : attributeBase e f X.env (eval e X.env) = eval e X.env := by rfl) : SE Γ X W (.Attribute e f pos) (mUn (xfldT c f) a) := by
  refine ⟨fun pins s σ H Q I h => ?_⟩
  obtain ⟨σp, F, ρ, st, sr, re, h⟩ := h
  refine attr_of hb (thn (he.run pins s σ H (fun x H1 => ∃ (p dd : Addr) (fvs : List (Str × V)) (w : V), x = .ref p ∧ H1 p = some (ExV (.ref (Γ.cad c)) (some dd) p) ∧ H1 dd = some (.xd fvs) ∧ fvs.lookup f = some w ∧ Q w H1) I ⟨σp, F, ρ, st, sr, re, Ran.bind sr h fun t st1 v H1 ρ1 _ s1 p1 r1 h1 => ?_⟩) fun u s1 hh => ?_)
  · unfold xfldT at h1
    split at h1
    · rename_i k fs vs
      split at h1
      · rename_i e2
        split at h1
        · rename_i y e3
          have e4 := Nat.eq_of_beq_eq_true e2
          subst e4
          obtain ⟨p, d, rfl, _, _, g1, g2⟩ := r1
          rcases g2 with ⟨_, z, _⟩ | ⟨dd, fvs, z1, _, _, z2, z3, z4⟩
          · subst z; simp [lookF] at e3
          · subst z1; subst z3
            obtain ⟨w, g4, g5⟩ := (lookF_ok z4).1 y e3
            exact ⟨p, dd, fvs, w, rfl, g1, z2, g4, Ran.done s1 h1 g5⟩
        · exact h1.elim
      · exact h1.elim
    · exact h1.elim
  · obtain ⟨x, H1, I1, rx, p, dd, fvs, w, ex, g1, g2, g3, q⟩ := hh
    subst ex
    cases (show u = Value.ref p from rx)
    obtain ⟨⟨oe, vs, hget, hz, hv⟩, _, _⟩ := I1.hok p _ g1
    obtain ⟨mA, hns, hr⟩ := (show ObjOk X.prog X.w H1 s1.heap dd (.xd fvs) from I1.hok dd _ g2)
    obtain ⟨od, ho, hl⟩ := lookIn_ns hns
    obtain ⟨y, hu, ry⟩ := RelO.some_of (v := w) (o := mA f) (by rw [← g3]; exact hr f)
    have inst : PySem.W.InstAt s1.heap p oe (Γ.cad c) (some od) := { at_ := hget, cls := hz.1, no := (by unfold PySem.W.notCls; rw [hv]), dict := (by rw [hz.2]; exact ho) }
    rw [← hK] at hc hn
    have fnd := PySem.W.findObj_own hc.hdC hn rfl (by rw [hl, hu])
    exact HandSPX.exc_get I1.kIn inst hc.ga hc.gg hc.exC fnd (handed_of ry) ⟨w, H1, I1.tok _, ry, q⟩
/-- self.f = v -/
def putO (c : Nat) (f : Str) (o y : T) (st : List O) : Option (List O) := match o with
  | .ref n => match st[n]? with
    | some (.ins k fs vs) => match Nat.beq k c && Nat.blt fs.length 1000 with
      | true => some (st.set n (.ins k (putN fs f) (putV fs vs f y)))
      | false => none
    | _ => none
  | _ => none
def mPutF (c : Nat) (f : Str) (o v : ME) : MS := fun σ st => (v σ st).bindS σ fun y st1 => (o σ st1).bindS σ fun x st2 => match putO c f x y st2 with
  | some st3 => .ok (.nx σ) st3
  | none => .no
theorem sS_fld (c : Nat) {o e : Expr} {f : Str} {a b : ME} {p2 pos : Pos} (hK : X.K = Γ.K) (hc : Cls Γ.K (Γ.cad c)) (hn : NoAttr Γ.K (Γ.cad c) f) (ho : SE Γ X W o a) (he : SE Γ X W e b) (hs : swapsWith e (some (.Attribute o f p2)) pos.line X.env = pure false := by rfl) : SS Γ X W (.Assign [.Attribute o f p2] e pos) (mPutF c f a b) :=
  (ps_fld ho he hs).imp fun D σ H ⟨σp, F, ρ, st, s, re, h⟩ => ⟨σp, F, ρ, st, s, re, RanS.lift s re h fun y st1 v H1 ρ1 s1 p1 re1 r1 h1 => ⟨σp, F, ρ1, st1, s1, re1, RanS.lift s1 re1 h1 fun x st2 w H2 ρ2 s2 p2 re2 r2 h2 => by
    cases q : putO c f x y st2 with
    | none => rw [q] at h2; exact h2.elim
    | some st3 =>
      rw [q] at h2
      unfold putO at q
      split at q
      · rename_i n
        split at q
        · rename_i k fs vs e1
          split at q
          · rename_i e2
            cases q
            simp only [Bool.and_eq_true] at e2
            have e3 := Nat.eq_of_beq_eq_true e2.1
            subst e3
            obtain ⟨p, rfl, g0⟩ := r2
            obtain ⟨dx, fvs, g1, g2, g3⟩ := RO.inst' (s2.rs.at_ n _ p e1 g0)
            subst g2
            obtain ⟨m1, m2⟩ := putF_ok (g := f) (p2.rv s1.rs r1) g3
            have hk : Keep ρ2 H2 (upd H2 p (.ins (Γ.cad k) dx (putF f v fvs))) := Keep.write (List.mem_of_getElem? g0) fun _ z => by rw [g1] at z; cases z; exact id
            have po : Post Γ F ρ2 H2 ρ2 (st2.set n (.ins k (putN (fvs.map (·.1)) f) (putV (fvs.map (·.1)) vs f y))) (upd H2 p (.ins (Γ.cad k) dx (putF f v fvs))) :=
              .write s2.rs g0 ⟨dx, _, upd_same, m1, RVs.grow (fun _ z => .inl z) .refl (Keep.w hk) _ _ m2⟩
            refine ⟨p, _, dx, fvs, rfl, g1, by rw [hK]; exact hc, by rw [hK]; exact hn, ?_, h2 σ _ ρ2 po (re2.post s2 po)⟩
            have := Nat.le_of_ble_eq_true e2.2
            rw [List.length_map] at this
            exact this
          · cases q
        · cases q
      · cases q⟩⟩
end
end WR
namespace WR
open PySem PySem.Spec PyProof.Rows L2
/-! ### instances: making, methods -/
def mkM (c n : Nat) (m : MF) (dts : List T) : MF := fun ts st => match Nat.beq (ts ++ dts).length n with
  | true => match m (.ref st.length :: (ts ++ dts)) (st ++ [.ins c [] []]) with
    | .ok .non st2 => .ok (.ref st.length) st2
    | .ok _ _ => .no
    | .exc e st2 => .exc e st2
    | .no => .no
  | false => .no
section
variable {Γ : Gam} {F ρ : List Addr} {H : Hp} {st : List O}
theorem make_sp {c n na : Nat} {m : MF} {dts : List T} {dvs : List V} {vs : List V} {Q : VK} {E : XK} (hd : Dts Γ dts dvs) (h : spOf Γ na (mkM c n m dts) vs H Q E) (x dx : Addr) (hx : H x = none) (hdx : H dx = none) (ne : dx ≠ x) :
    spOf Γ (n + 1) m (.ref x :: (vs ++ dvs)) (upd (upd H dx (.own x)) x (.ins (Γ.cad c) dx [])) (fun v H2 => v = .non ∧ Q (.ref x) H2) E := by
  obtain ⟨ts, F, ρ, st, s, r, l, h⟩ := h
  have p1 : Post Γ F ρ H ρ st (upd H dx (.own x)) := .laid s.rs hdx
  have s1 := s.post p1
  have hx1 : upd H dx (.own x) x = none := by rw [upd_ne (Ne.symm ne)]; exact hx
  have p2 : Post Γ F ρ (upd H dx (.own x)) (ρ ++ [x]) (st ++ [.ins c [] []]) (upd (upd H dx (.own x)) x (.ins (Γ.cad c) dx [])) := .alloc s1.rs hx1 ⟨dx, [], upd_same, rfl, rfl⟩
  have pp := p1.trans s.rs p2
  have s2 := s1.post p2
  unfold mkM at h
  cases q : Nat.beq (ts ++ dts).length n with
  | false => rw [q] at h; exact h.elim
  | true =>
    rw [q] at h
    refine ⟨.ref st.length :: (ts ++ dts), F, _, _, s2, ⟨_, _, rfl, ⟨x, rfl, by rw [← s.rs.len]; simp⟩, (pp.rvs s.rs r).append (hd _ _ _)⟩, by rw [List.length_cons, Nat.eq_of_beq_eq_true q], ?_⟩
    simp only at h
    cases q2 : m (.ref st.length :: (ts ++ dts)) (st ++ [.ins c [] []]) with
    | no => rw [q2] at h; exact h
    | exc e st2 =>
      rw [q2] at h
      exact fun cls d H2 ρ2 po rx => h cls d H2 ρ2 (pp.trans s.rs po) rx
    | ok t st2 =>
      rw [q2] at h
      cases t with
      | non =>
        intro v H2 ρ2 po rv
        refine ⟨rv, h _ H2 ρ2 (pp.trans s.rs po) ⟨x, rfl, ?_⟩⟩
        exact po.grow.get (by rw [← s.rs.len]; simp)
      | _ => exact h.elim
end
section
variable {Γ : Gam} {X : Cx} {W : WX} {k : Nat} {f : Addr} {fd : FuncData} {ps : List Str} {dvs : List V} {ds : List Value} {dts : List T} {x : Str} {p pos : Pos} {e : Expr} {es : List Expr} {n na c : Nat} {m m' : MF} {ma : M (List T)}
/-- a wish that doesn't look at the slots -/
def NoSlots (W : WX) : Prop := ∀ cls d σ σ' H, W cls d σ H → W cls d σ' H
abbrev WEx (W : WX) : XK := fun cls d H => ∃ σ, W cls d σ H
theorem passWE (tk : Takes X W) (hW : NoSlots W) : Passes (L2.CX X.prog X.w) X (WEx W) := fun pins σ H s e s' => passes_call tk (fun cls d σ' H' ⟨σ2, z⟩ => hW cls d σ2 σ' H' z) pins σ H s e s'
theorem Ran.weakE {α β : Type} {Rl : List Addr → List O → Hp → α → β → Prop} {F ρ : List Addr} {H : Hp} {st : List O} {r : Rs α} {E E' : XK} {Q : β → Hp → Prop} (h : Ran Γ F Rl r ρ st H E Q) (hE : ∀ cls d H', E cls d H' → E' cls d H') : Ran Γ F Rl r ρ st H E' Q := by
  cases r with
  | ok t st2 => exact h
  | exc e st2 => exact fun cls d H2 ρ2 p rx => hE _ _ _ (h cls d H2 ρ2 p rx)
  | no => exact h
theorem sE_makeOf (hm' : ∀ F ρ st H ts vs Q E, SR Γ F ρ H st → RVs Γ F ρ H ts vs → ts.length = na → Ran Γ F (RT Γ F) (m' ts st) ρ st H E Q → spOf Γ na (mkM c n m dts) vs H Q E)
    (Mc : Mk X.K (Γ.cad c) f) (G : FnOk X.prog X.w X.K X.mg X.base (L2.CX X.prog X.w) k f fd ps (spOf Γ (n + 1) m)) (tk : Takes X W) (hW : NoSlots W) (hr : Room (k + 1) X.A) (hm : X.mg x = some (.ref (Γ.cad c))) (hb : Binds X.K fd ps ds) (hd : Vals dvs ds) (hdt : Dts Γ dts dvs)
    (ha : SA Γ X W (e :: es) ma) (hg : Gl X x := by rfl) (hdb : (x == ("__debug__" : Str)) = false := by decide) (he : starEach (e :: es) X.env = (false, eval e X.env) :: starEach es X.env := by rfl) (hpl : (backTo pos (starEach es X.env)).any (·.1) = false := by rfl) :
    SE Γ X W (.Call (.Name x p) (e :: es) [] pos) (mCall na m' [] ma) :=
  (pe_make Mc G hr hg hm hb hd (passWE tk hW) ha hdb he hpl).imp fun σ H Q ⟨σp, F, ρ, st, s, re, h⟩ => ⟨σp, F, ρ, st, s, re, Ran.bind s h fun ts st1 vs H1 ρ1 _ s1 p1 r1 h1 => by
    rw [List.append_nil] at h1
    cases q : Nat.beq ts.length na with
    | false => rw [q] at h1; exact h1.elim
    | true =>
      rw [q] at h1
      exact fun x dx hx hdx ne => make_sp hdt (hm' F ρ1 st1 H1 ts vs Q (WEx W) s1 r1 (Nat.eq_of_beq_eq_true q) (h1.weakE fun cls d H' z => ⟨σ, z⟩)) x dx hx hdx ne⟩
theorem sE_make (Mc : Mk X.K (Γ.cad c) f) (G : FnOk X.prog X.w X.K X.mg X.base (L2.CX X.prog X.w) k f fd ps (spOf Γ (n + 1) m)) (tk : Takes X W) (hW : NoSlots W) (hr : Room (k + 1) X.A) (hm : X.mg x = some (.ref (Γ.cad c))) (hb : Binds X.K fd ps ds) (hd : Vals dvs ds) (hdt : Dts Γ dts dvs)
    (ha : SA Γ X W (e :: es) ma) (hg : Gl X x := by rfl) (hdb : (x == ("__debug__" : Str)) = false := by decide) (he : starEach (e :: es) X.env = (false, eval e X.env) :: starEach es X.env := by rfl) (hpl : (backTo pos (starEach es X.env)).any (·.1) = false := by rfl) :
    SE Γ X W (.Call (.Name x p) (e :: es) [] pos) (mCall na (mkM c n m dts) [] ma) := sE_makeOf (fun F ρ st H ts vs Q E s r l h => ⟨ts, F, ρ, st, s, r, l, h⟩) Mc G tk hW hr hm hb hd hdt ha hg hdb he hpl
theorem sE_makeI (Mc : Mk X.K (Γ.cad c) f) (G : FnOk X.prog X.w X.K X.mg X.base (L2.CX X.prog X.w) k f fd ps (spOf Γ (n + 1) m)) (tk : Takes X W) (hW : NoSlots W) (hr : Room (k + 1) X.A) (hm : X.mg x = some (.ref (Γ.cad c))) (hb : Binds X.K fd ps ds) (hd : Vals dvs ds) (hdt : Dts Γ dts dvs)
    (ha : SA Γ X W (e :: es) ma) (hg : Gl X x := by rfl) (hdb : (x == ("__debug__" : Str)) = false := by decide) (he : starEach (e :: es) X.env = (false, eval e X.env) :: starEach es X.env := by rfl) (hpl : (backTo pos (starEach es X.env)).any (·.1) = false := by rfl) :
    SE Γ X W (.Call (.Name x p) (e :: es) [] pos) (mCall na (iso (mkM c n m dts)) [] ma) := sE_makeOf (fun F ρ st H ts vs Q E s r l h => iso_sp s r l h) Mc G tk hW hr hm hb hd hdt ha hg hdb he hpl
/-! methods -/
def mMeth (c : Nat) (nm : Str) (n : Nat) (m : MF) (dts : List T) (o : ME) (args : M (List T)) : ME := fun σ st => (o σ st).bind fun x st1 => match insT st1 x with
  | some (k, fs, vs) => match Nat.beq k c, lookF fs vs nm with
    | true, none => (args σ st1).bind fun ts st2 => match Nat.beq (x :: (ts ++ dts)).length n with
      | true => m (x :: (ts ++ dts)) st2
      | false => .no
    | _, _ => .no
  | none => .no
theorem meth_imp {nm : Str} {ta : TA} {a : ME} {σ : L2.St} {H : Hp} {Q : VK} (hm' : ∀ F ρ st H ts vs Q E, SR Γ F ρ H st → RVs Γ F ρ H ts vs → ts.length = n → Ran Γ F (RT Γ F) (m' ts st) ρ st H E Q → spOf Γ n m vs H Q E) (hdt : Dts Γ dts dvs) (hta : ∀ σ H Q, tAv Γ ma W σ H Q → ta σ H Q)
    (h : tEv Γ (mMeth c nm n m' dts a ma) W σ H Q) : tMeth (Γ.cad c) nm (spOf Γ n m) dvs (WEx W) (tEv Γ a W) ta σ H Q := by
  obtain ⟨σp, F, ρ, st, s, re, h⟩ := h
  refine ⟨σp, F, ρ, st, s, re, Ran.bind s h fun t st1 v H1 ρ1 _ s1 p1 r1 h1 => ?_⟩
  split at h1
  · rename_i k fs vs e1
    split at h1
    · rename_i e2 e3
      obtain ⟨p, dx, fvs, rfl, g1, g2, g3⟩ := insT_ok s1.rs e1 r1
      have e4 := Nat.eq_of_beq_eq_true e2
      subst e4
      subst g2
      refine ⟨p, dx, fvs, rfl, g1, (lookF_ok g3).2 e3, hta _ _ _ ⟨σp, F, ρ1, st1, s1, re.post s p1, Ran.bind s1 h1 fun ts st2 vs2 H2 ρ2 _ s2 p2 r2 h2 => ?_⟩⟩
      cases q : Nat.beq (t :: (ts ++ dts)).length n with
      | false => rw [q] at h2; exact h2.elim
      | true =>
        rw [q] at h2
        exact hm' F ρ2 st2 H2 (t :: (ts ++ dts)) _ Q (WEx W) s2 ⟨_, _, rfl, p2.rv s1.rs r1, r2.append (hdt _ _ _)⟩ (Nat.eq_of_beq_eq_true q) (h2.weakE fun cls d H' z => ⟨σ, z⟩)
    · exact h1.elim
  · exact h1.elim
theorem sE_methOf {nm : Str} {o : Expr} {a : ME} {apos : Pos} {pl : Sem Bool} (hm' : ∀ F ρ st H ts vs Q E, SR Γ F ρ H st → RVs Γ F ρ H ts vs → ts.length = n → Ran Γ F (RT Γ F) (m' ts st) ρ st H E Q → spOf Γ n m vs H Q E) (hK : X.K = Γ.K) (hc : Cls Γ.K (Γ.cad c)) (hmt : Meth Γ.K (Γ.cad c) nm f)
    (G : FnOk X.prog X.w X.K X.mg X.base (L2.CX X.prog X.w) k f fd ps (spOf Γ n m)) (tk : Takes X W) (hW : NoSlots W) (hr : Room k X.A) (hb : Binds X.K fd ps ds) (hd : Vals dvs ds) (hdt : Dts Γ dts dvs) (ho : SE Γ X W o a) (ha : SA Γ X W (e :: es) ma)
    (hst : starEach (e :: es) X.env = (false, eval e X.env) :: starEach es X.env := by rfl) (hpl : (backTo pos (starEach es X.env)).any (·.1) = false := by rfl)
    (ht : eval (.Call (.Attribute o nm apos) (e :: es) [] pos) X.env = (do
      let ov ← eval o X.env
      standAt apos.atName
      let (f, first) ← holding [ov] (getMethod ov nm pl)
      callWith pos f first (backTo pos (starEach (e :: es) X.env)) (backToKw pos (keywordEach [] X.env))) := by rfl) : SE Γ X W (.Call (.Attribute o nm apos) (e :: es) [] pos) (mMeth c nm n m' dts a ma) :=
  (pe_meth (pl := pl) ho (by rw [hK]; exact hc) (by rw [hK]; exact hmt) G hr hb hd (passWE tk hW) ha hst hpl ht).imp fun σ H Q h => meth_imp hm' hdt (fun _ _ _ z => z) h
theorem sE_methOf0 {nm : Str} {o : Expr} {a : ME} {apos : Pos} {pl : Sem Bool} (hm' : ∀ F ρ st H ts vs Q E, SR Γ F ρ H st → RVs Γ F ρ H ts vs → ts.length = n → Ran Γ F (RT Γ F) (m' ts st) ρ st H E Q → spOf Γ n m vs H Q E) (hK : X.K = Γ.K) (hc : Cls Γ.K (Γ.cad c)) (hmt : Meth Γ.K (Γ.cad c) nm f)
    (G : FnOk X.prog X.w X.K X.mg X.base (L2.CX X.prog X.w) k f fd ps (spOf Γ n m)) (tk : Takes X W) (hW : NoSlots W) (hr : Room k X.A) (hb : Binds X.K fd ps ds) (hd : Vals dvs ds) (hdt : Dts Γ dts dvs) (ho : SE Γ X W o a)
    (ht : eval (.Call (.Attribute o nm apos) [] [] pos) X.env = (do
      let ov ← eval o X.env
      standAt apos.atName
      let (f, first) ← holding [ov] (getMethod ov nm pl)
      callWith pos f first (backTo pos (starEach [] X.env)) (backToKw pos (keywordEach [] X.env))) := by rfl) : SE Γ X W (.Call (.Attribute o nm apos) [] [] pos) (mMeth c nm n m' dts a mNil) :=
  (pe_meth0 (pl := pl) ho (by rw [hK]; exact hc) (by rw [hK]; exact hmt) G hr hb hd (passWE tk hW) ht).imp fun σ H Q h => meth_imp hm' hdt (fun _ _ _ ⟨σp, F, ρ, st, s, re, h⟩ => Ran.done s h rfl) h
/-- a method called on what stands; on nothing but its arguments -/
theorem ofSame : ∀ (F ρ : List Addr) (st : List O) (H : Hp) (ts : List T) (vs : List V) (Q : VK) (E : XK), SR Γ F ρ H st → RVs Γ F ρ H ts vs → ts.length = n → Ran Γ F (RT Γ F) (m ts st) ρ st H E Q → spOf Γ n m vs H Q E := fun F ρ st H ts vs Q E s r l h => ⟨ts, F, ρ, st, s, r, l, h⟩
theorem ofIso : ∀ (F ρ : List Addr) (st : List O) (H : Hp) (ts : List T) (vs : List V) (Q : VK) (E : XK), SR Γ F ρ H st → RVs Γ F ρ H ts vs → ts.length = n → Ran Γ F (RT Γ F) (iso m ts st) ρ st H E Q → spOf Γ n m vs H Q E := fun F ρ st H ts vs Q E s r l h => iso_sp s r l h
end
end WR
namespace WR
open PySem PySem.Spec PyProof.Rows L2
section
variable {Γ : Gam} {X : Cx} {W : WX}
/-! ### raise C('..') -/
def mRaise0 (c : Nat) : MS := fun σ st => .exc ⟨c, [], []⟩ σ st
theorem sS_raise0 (c : Nat) {x m : Str} {j : Nat} {p p2 pos pos' : Pos} {B newId initId : String} {bmB : List Value} (tk : Takes X W) (B0 : ExcBaseFacts B newId initId bmB) (q : PySem.W.excIn X.K (Γ.cad c) bmB newId = true) (hm : X.mg x = some (.ref (Γ.cad c))) (kC : PySem.W.keepIn X.K (.ref (Γ.cad c)) = true) (r : Raises X (.ref (Γ.cad c))) (hc : X.calm = true := by rfl) (hg : Gl X x := by rfl)
    (hdb : (x == ("__debug__" : Str)) = false := by decide) : SS Γ X W (.Raise (some (.Call (.Name x p) [.Constant (.str m) j p2] [] pos)) none pos') (mRaise0 c) :=
  (ps_raise hc tk (pmk_own B0 q hm kC r hg hdb)).imp fun D σ H ⟨σp, F, ρ, st, s, re, h⟩ => h _ _ σ H ρ (.refl s.rs) ⟨rfl, .inl ⟨rfl, rfl, rfl⟩⟩ re
/-! ### B.__init__(self, ..), B an own class that has ValueError's -/
structure BaseI (K : PySem.W.Frag) (B : Addr) : Prop where
  rd : PySem.W.readsIn K B (.type "type") = true
  ga : PySem.W.specialIn K (.ref B) "__getattribute__" = some (some (.builtin "type.__getattribute__"))
  iv : PySem.W.findCls K (.ref B) (.type "type") "__init__" = some (.val (.builtin "ValueError.__init__"))
theorem pe_binit {x : Str} {B : Addr} {e : Expr} {es : List Expr} {ta : TA} {p1 p2 pos : Pos} {pl : Sem Bool} (hg : Gl X x) (hm : X.mg x = some (.ref B)) (bi : BaseI X.K B) (args : PA X (e :: es) ta) (hdb : (x == ("__debug__" : Str)) = false := by decide)
    (hcall : eval (.Call (.Attribute (.Name x p1) "__init__" p2) (e :: es) [] pos) X.env = (do
      let ov ← eval (.Name x p1) X.env
      standAt p2.atName
      let (f, first) ← holding [ov] (getMethod ov "__init__" pl)
      callWith pos f first (backTo pos (starEach (e :: es) X.env)) (backToKw pos (keywordEach [] X.env))) := by rfl)
    (hst : starEach (e :: es) X.env = (false, eval e X.env) :: starEach es X.env := by rfl) (hpl : (backTo pos (starEach es X.env)).any (·.1) = false := by rfl) :
    PE X (.Call (.Attribute (.Name x p1) "__init__" p2) (e :: es) [] pos) (tVeI X.K ta) := ⟨fun pins s0 σ H Q I0 pre => by
  refine PySem.W.methodCall_KW (ld_glob I0 hg hm ?_ hdb) hcall
  refine PySem.W.method_cls I0.kIn bi.ga (PySem.W.cls_value I0.kIn bi.rd bi.iv (by decide +kernel) ?_)
  show wpAny _ _ (callWith pos (.builtin "ValueError.__init__") [] _ []) _ _ _
  refine PyProof.Rows.callWith_method1 (thn (args.run pos pins _ σ H _ (I0.tok _) pre) fun vals t1 ⟨ws, Ha, Ia, rel, obj, C, more, ew, small, oc, at1, fin⟩ => ?_) hst hpl
  subst ew
  cases rel with
  | @cons _ v0 _ vr r0 rr =>
    cases (show v0 = Value.ref obj from r0)
    exact oinit_ok oc Ia at1 (by rw [← rr.length, sizeLine_eq]; omega) fun t2 Ib => ⟨V.non, Ha, Ib, rfl, fin⟩⟩
/-- what an exception's own __init__(self, text, at) promises -/
def spXi (K : PySem.W.Frag) (f : Str) : Sp := fun vs H Q _ => ∃ (a C : Addr) (t y : V), vs = [.ref a, t, y] ∧ OexC K C ∧ PySem.W.findIn K (.ref C) f = some none ∧ H a = some (exo a C none) ∧ ∀ dx, H dx = none → dx ≠ a → Q .non (upd (upd H dx (exd dx [(f, y)])) a (exo a C (some dx)))
/-- raise C('..', k) -/
def mRaiseX (c : Nat) (f : Str) (dts : List T) (args : M (List T)) : MS := fun σ st => (args σ st).bindS σ fun ts st1 => match ts ++ dts with
  | [_, y] => .exc ⟨c, [f], [y]⟩ σ st1
  | _ => .no
theorem sS_raiseX (c : Nat) {x f : Str} {fI : Addr} {k : Nat} {fd : FuncData} {ps : List Str} {ds : List Value} {dvs : List V} {dts : List T} {e : Expr} {es : List Expr} {ma : M (List T)} {p pos pos' : Pos} (tk : Takes X W) (oc : OexC X.K (Γ.cad c)) (hf : PySem.W.findIn X.K (.ref (Γ.cad c)) f = some none) (iC : PySem.W.findIn X.K (.ref (Γ.cad c)) "__init__" = some (some (.ref fI))) (tI : PySem.W.typeIn X.K (.ref fI) = some (.type "function"))
    (G : FnOk X.prog X.w X.K X.mg X.base CX0 k fI fd ps (spXi X.K f)) (hr : Room (k + 1) X.A) (hb : Binds X.K fd ps ds) (hd : Vals dvs ds) (hdt : Dts Γ dts dvs) (hm : X.mg x = some (.ref (Γ.cad c))) (ha : SA Γ X W (e :: es) ma) (hc : X.calm = true := by rfl) (hg : Gl X x := by rfl)
    (hdb : (x == ("__debug__" : Str)) = false := by decide) (he : starEach (e :: es) X.env = (false, eval e X.env) :: starEach es X.env := by rfl) (hpl : (backTo pos (starEach es X.env)).any (·.1) = false := by rfl) :
    SS Γ X W (.Raise (some (.Call (.Name x p) (e :: es) [] pos)) none pos') (mRaiseX c f dts ma) :=
  (ps_raise hc tk (pmk_oex oc iC tI G hr hb hd pass0 hg hm ha hdb he hpl)).imp fun D σ H ⟨σp, F, ρ, st, s, re, h⟩ => ⟨σp, F, ρ, st, s, re, RanS.lift s re h fun ts st1 vs H1 ρ1 s1 p1 re1 r1 h1 => by
    have rr := r1.append (hdt F ρ1 H1)
    have lv : vs.length ≤ 1000 := by
      rw [← r1.length]
      split at h1
      · rename_i t y e1
        have : (ts ++ dts).length = 2 := by rw [e1]; rfl
        rw [List.length_append] at this; omega
      · exact h1.elim
    refine ⟨lv, fun a ha1 => ?_⟩
    split at h1
    · rename_i t y e1
      rw [e1] at rr
      obtain ⟨v, vr, e2, r2, r3⟩ := rr
      obtain ⟨w, wr, e3, r4, r5⟩ := r3
      have e4 : wr = [] := r5
      subst e4
      subst e3
      refine ⟨a, Γ.cad c, v, w, by rw [e2], oc, hf, upd_same, fun dx hdx ne => ⟨rfl, dx, [(f, w)], upd_same, ?_, ?_, ?_⟩⟩
      · rw [upd_ne ne, upd_same]
      · rw [upd_ne ne] at hdx; exact hdx
      · have hdx1 : H1 dx = none := by rw [upd_ne ne] at hdx; exact hdx
        have eH : upd (del (upd (upd (upd H1 a (exo a (Γ.cad c) none)) dx (exd dx [(f, w)])) a (exo a (Γ.cad c) (some dx))) a) dx (.xd [(f, w)]) = upd H1 dx (.xd [(f, w)]) := by
          funext b
          by_cases h1 : b = dx
          · subst h1; rw [upd_same, upd_same]
          · rw [upd_ne h1, upd_ne h1]
            by_cases h2 : b = a
            · subst h2; rw [del_same, ha1]
            · rw [del_ne h2, upd_ne h2, upd_ne h1, upd_ne h2]
        rw [eH]
        have po : Post Γ F ρ1 H1 ρ1 st1 (upd H1 dx (.xd [(f, w)])) := .laid s1.rs hdx1
        exact h1 _ _ σ _ ρ1 po ⟨rfl, .inr ⟨dx, [(f, w)], rfl, (s1.fresh hdx1).1, (s1.fresh hdx1).2, upd_same, rfl, ⟨w, [], rfl, po.rv s1.rs r4, rfl⟩⟩⟩ (re1.post s1 po)
    · exact h1.elim⟩
end
end WR
namespace WR
open PySem PySem.Spec PyProof.Rows L2
/-- an exception's own __init__: B.__init__(self, text); self.f = at -/
theorem xinit_ok {P : Program} {w : World} {K : PySem.W.Frag} {mg : Str → Option Value} {base : Heap} {k : Nat} {f : Addr} {fd : FuncData} {qual n : Str} {params : Arguments} {body : List Stmt} {scope : Scope} {dvs : List V} {kws : List (Str × V)} {N ps : List Str} {g B : Str} {p1 p2 p3 p4 p5 p6 p7 p8 p9 p10 : Pos} {s0 s1 s2 : Str}
    (Fd : FunD K n qual params body scope dvs kws f fd) (S : FnScope N ps scope) (hps : ps = [s0, s1, s2]) (hN : N = [s0, s1, s2])
    (hbody : body = [.Expr (.Call (.Attribute (.Name B p1) "__init__" p2) [.Name s0 p3, .Name s1 p4] [] p5) p6, .Assign [.Attribute (.Name s0 p7) g p8] (.Name s2 p9) p10])
    (run : ∀ (cdv : Value) (A : Around) (outer : List Env) (s : Shared) (H : Hp) (E : XK), PSs (cxOf CX0 P w K mg base N qual scope f cdv A outer s H E) body (tSeq (tDrop (tVeI K (tCons (tVar 0) (tCons (tVar 1) tNil)))) (tSeq (tOst K g (tVar 0) (tVar 2)) tNext))) :
    FnOk P w K mg base CX0 (k + 1) f fd ps (spXi K g) := by
  refine Fd.ok S (fun vs H Q E ⟨a, C, t, y, e, _⟩ => by rw [e, hps]; rfl) fun cdv A outer s H vs Q E _ h => ⟨_, run cdv A outer s H E, ?_⟩
  obtain ⟨a, C, t, y, rfl, oc, hf, ha, q⟩ := h
  subst hN
  have v0 : (start [s0, s1, s2] [V.ref a, t, y])[0]? = some (some (V.ref a)) := rfl
  have v1 : (start [s0, s1, s2] [V.ref a, t, y])[1]? = some (some t) := rfl
  have v2 : (start [s0, s1, s2] [V.ref a, t, y])[2]? = some (some y) := rfl
  refine ⟨_, v0, _, v1, a, C, [t], rfl, by simp, oc, ha, _, v2, _, v0, a, C, rfl, oc, hf, .inl ⟨ha, fun dx hdx ne => q dx hdx ne⟩⟩

/-! ### an exception that was caught is tracked -/
theorem exV_ok {P : Program} {w : World} {H : Hp} {h : Heap} {a : Addr} {cls : Value} {d : Option Addr} {oe : Obj} {vs : Array Value} (e : h.get? a = some oe) (z : Zc cls d oe) (f : oe.data = .fields vs) : ObjOk P w H h a (ExV cls d a) :=
  ⟨⟨oe, vs, e, z, f⟩, ⟨oe, e⟩, fun _ _ ⟨o, v, q, r⟩ k => ⟨o, v, k o q, r⟩⟩
theorem Inv.track {X : Cx} {pins : List (Addr × Obj)} {σ : L2.St} {H : Hp} {s : Shared} {a : Addr} {o : HO} (I : Inv X pins σ H s) (hn : H a = none) (hb : ∀ b, s.heap.get? b ≠ none → (X.s_0.heap.get? b ≠ none ∨ b = X.env.locals ∨ (∃ x, X.env.cells.lookup x = some b) ∨ ∃ p ∈ X.pn ++ pins, p.1 = b) → b ≠ a) (s0 : ∀ b, X.s_0.heap.get? b ≠ none → s.heap.get? b ≠ none)
    (ok : ObjOk X.prog X.w (upd H a o) s.heap a o) : Inv X pins σ (upd H a o) s where
  ok := I.ok
  os := I.os
  bare := I.bare
  base := by
    have n : ∀ b u, X.s_0.heap.get? b = some u → b ≠ a := fun b u e => hb b (s0 b (by rw [e]; simp)) (.inl (by rw [e]; simp))
    exact { keep := I.base.keep, slot := I.base.slot, free := fun b u e h x => (by rw [upd_ne (n b u e)]; exact I.base.free b u e h x), there := I.base.there, tups := fun b xs e => (by rw [upd_ne (ne_of_none (I.base.tups b xs e) hn)]; exact I.base.tups b xs e), frzs := fun b u v e => (by rw [upd_ne (ne_of_none (I.base.frzs b u v e) hn)]; exact I.base.frzs b u v e), tbls := fun b ps e => (by
      obtain ⟨m, z⟩ := I.base.tbls b ps e
      exact ⟨m, by rw [upd_ne (ne_of_none z hn)]; exact z⟩) }
  loc := I.loc
  cell := I.cell
  free := by
    obtain ⟨m, ⟨u, _, _, hu, _⟩, _⟩ := I.loc
    rw [upd_ne (hb _ (by rw [hu]; simp) (.inr (.inl rfl)))]; exact I.free
  freeC := fun x c e => by
    obtain ⟨v, u, hu, _⟩ := I.cell x c e
    rw [upd_ne (hb _ (by rw [hu]; simp) (.inr (.inr (.inl ⟨x, e⟩))))]; exact I.freeC x c e
  pin := fun p hp => by
    obtain ⟨h1, h2, h3⟩ := I.pin p hp
    exact ⟨h1, by rw [upd_ne (hb _ (by rw [h1]; simp) (.inr (.inr (.inr ⟨p, hp, rfl⟩))))]; exact h2, h3⟩
  hok := fun b u e => by
    by_cases c : b = a
    · subst c; rw [upd_same] at e; cases e; exact ok
    · rw [upd_ne c] at e
      exact (I.hok b u e).stay (fun _ _ _ q => q) (fun x q => by rw [upd_ne (ne_of_none q hn)]; exact q) fun x xs q => by rw [upd_ne (ne_of_none q hn)]; exact q
  len := I.len
/-- what 'except x as n' wishes; the exception is tracked -/
def wAsV (K : PySem.W.Frag) (c : Value) (i : Nat) (ts : TS) (Wout : WX) (D : Ends) : WX := fun cls d σ H =>
  ∃ b, PySem.W.exmOne K cls c = some b ∧ (b = true → ∀ a, H a = none → ts { nx := fun σ' H' => D.nx (σ'.set i none) H', rt := D.rt, bk := fun σ' H' => D.bk (σ'.set i none) H', ct := fun σ' H' => D.ct (σ'.set i none) H' } (σ.set i (some (.ref a))) (upd H a (ExV cls d a))) ∧ (b = false → Wout cls d σ H)
theorem ps_try_asV {X : Cx} {x n : Str} {c : Value} {i : Nat} {body suite : List Stmt} {b0 : Stmt} {np pos pos' : Pos} {tb : WX → TS} {ts : TS} {Wout : WX} (hs : X.stack = X.env :: X.outer) (hf : X.env.frame = some X.env.locals) (hx : X.ex = []) (hN : X.N.Nodup) (hi : X.N[i]? = some n) (hln : X.env.kindOf n = some .local) (hc : Names X x c) (tk : Takes X Wout)
    (hb : ∀ (W : WX) (pn : List (Addr × Obj)) (xe : Value → Shared → Prop), Takes (X.tr pn xe) W → PassesOwn (model X.prog X.w) X.A X.env xe → PSs (X.tr pn xe) body (tb W)) (hsu : ∀ (a : Addr) (pn : List (Addr × Obj)), PSs (X.suite a pn) (b0 :: suite) ts) :
    PS X (.Try body [.ExceptHandler (some (.Name x np)) (some n) (b0 :: suite) pos'] [] [] pos) (fun D σ H => tb (wAsV X.K c i ts Wout D) D σ H) := ⟨fun pins s0 σ0 H0 D I0 pre => by
  have okX := I0.ok
  have frm : X.A.frames = some (X.env :: X.outer) := by rw [okX.frames, hs]
  have run := (hb (wAsV X.K c i ts Wout D) (X.pn ++ pins) (fun u t1 => wpAny (model X.prog X.w) X.A (noteFrame u X.env) (fun _ t2 => wpAny (model X.prog X.w) X.A (setFlight u none) (fun _ t3 => wpAny (model X.prog X.w) X.A (handleBy u X.env [.ExceptHandler (some (.Name x np)) (some n) (b0 :: suite) pos']) (SP X pins D) X.xe t3) X.xe t2) X.xe t1) (fun u t1 flown => ?_) PassesOwn.looking).run [] s0 σ0 H0 D (I0.toTry _) pre
  · refine wpAny_Try_except (wpAny_mono run (fun f t1 ends => ?_) fun u t1 z => z)
    cases f with
    | next => obtain ⟨σ1, H1, I1, q⟩ := ends; exact wpAny_execs_nil ⟨σ1, H1, I1.ofTry okX, q⟩
    | ret u => obtain ⟨v, σ1, H1, I1, r, q⟩ := ends; exact ⟨v, σ1, H1, I1.ofTry okX, r, q⟩
    | brk => obtain ⟨σ1, H1, I1, q⟩ := ends; exact ⟨σ1, H1, I1.ofTry okX, q⟩
    | cont => obtain ⟨σ1, H1, I1, q⟩ := ends; exact ⟨σ1, H1, I1.ofTry okX, q⟩
  obtain ⟨a, B, sI, pn1, σ1, H1, cls, d, rfl, Itry, inB, risen, inSky, Ha, eos, bares, yes, matched, onYes, onNo⟩ := flown
  have Iin : Inv X pins σ1 H1 sI := Itry.ofTry okX
  rw [hs] at inSky
  show wpAny (model X.prog X.w) X.A (noteFrame (.ref a) X.env) _ _ _
  refine Sky.land Zc.steady frm hf inSky fun hA flA upA => ?_
  have IA : Inv X pins σ1 H1 { t1 with heap := hA } := Iin.landed inB flA.1 (risen.trans upA) eos bares
  obtain ⟨obA, vsA, getA, zA, datA⟩ := flA.there
  have Ba : B.get? a = none := flA.2.1
  -- a was not there when the body ran
  have nfr : a ∉ frs (X.env :: X.outer) := fun hm => by
    obtain ⟨_, o', e', hnf⟩ := flA.2.2.1.mem hm
    rw [getA] at e'; cases e'
    exact hnf _ datA
  have new : sI.heap.get? a = none := by
    cases z : sI.heap.get? a with
    | none => rfl
    | some o =>
      have := inB a o z (by rw [hs]; exact nfr)
      rw [Ba] at this; cases this
  have there0 : ∀ b, X.s_0.heap.get? b ≠ none → sI.heap.get? b ≠ none := fun b h => by
    cases z : X.s_0.heap.get? b with
    | none => exact (h z).elim
    | some o =>
      obtain ⟨o', e⟩ := Iin.base.there b o z (by rw [hx]; simp)
      rw [e]; simp
  have apart : ∀ b, (X.s_0.heap.get? b ≠ none ∨ b = X.env.locals ∨ (∃ x, X.env.cells.lookup x = some b) ∨ ∃ p ∈ X.pn ++ pins, p.1 = b) → b ≠ a := fun b h z => by
    subst z
    rcases h with h | h | ⟨y, h⟩ | ⟨p, h, e⟩
    · exact there0 _ h new
    · obtain ⟨m, ⟨u, _, _, hu, _⟩, _⟩ := Iin.loc
      rw [← h, new] at hu; cases hu
    · obtain ⟨v, u, hu, _⟩ := Iin.cell y _ h
      rw [new] at hu; cases hu
    · have hu := (Iin.pin p h).1
      rw [e, new] at hu; cases hu
  have looks : PySem.W.Looks (model X.prog X.w) hA (typeOf (.ref a)) cls := fun A Q E s k q => wpAny_typeOf_ref (k _ _ getA) (by rw [zA.1]; exact q)
  have isIt := PySem.W.exm_one (M := model X.prog X.w) IA.kIn looks matched
  have inSuite : ∀ {σ : L2.St} {H : Hp} {t : Shared}, Inv X pins σ H t → Inv (X.suite a (X.pn ++ pins)) [] σ H t := fun I => { ok := I.ok.suite _ _, os := I.os, bare := I.bare, base := I.base, loc := I.loc, cell := I.cell, free := I.free, freeC := I.freeC, pin := fun p hp => I.pin p (by rw [List.append_nil] at hp; exact hp), hok := I.hok, len := I.len }
  have outSuite : ∀ {σ : L2.St} {H : Hp} {t : Shared}, Inv (X.suite a (X.pn ++ pins)) [] σ H t → Inv X pins σ H t := fun I => { ok := okX, os := I.os, bare := I.bare, base := I.base, loc := I.loc, cell := I.cell, free := I.free, freeC := I.freeC, pin := fun p hp => I.pin p (by rw [List.append_nil]; exact hp), hok := I.hok, len := I.len }
  have named : ∀ {Q E : Value → Shared → Prop}, Q c { t1 with heap := hA } → wpAny (model X.prog X.w) (X.A.mark (some (.ref a))) (eval (.Name x np) X.env) Q E { t1 with heap := hA } := fun {Q E} q => by
    obtain ⟨glb, notDebug, own | ⟨noMg, boot, notName⟩⟩ := hc
    · exact ld_glob (X := X.suite a (X.pn ++ pins)) (inSuite IA) glb own q notDebug
    · exact ld_blt (X := X.suite a (X.pn ++ pins)) (inSuite IA) glb noMg boot q notName notDebug
  refine wpAny_handleBy_cons (codeAny_handlers_test (named (isIt.here ?_))) (by intro q; cases q)
  cases yes with
  | false =>
    show wpAny _ X.A (handleBy (.ref a) X.env []) _ _ _
    refine wpAny_handleBy_nil ?_
    obtain ⟨_, _, _, ob, fs, tr, _, _, g1, _, g2, g3, _⟩ := id flA
    unfold PySem.passOn
    refine wpAny_bind (wpAny_field g1 g2 g3 ?_)
    rw [if_neg (show ¬ ((Value.ref tr == Value.none) = true) by simp)]
    have away : wpAny (model X.prog X.w) X.A (setFlight (.ref a) X.env.frame) (fun _ t4 => wpAny (model X.prog X.w) X.A (throw (.ref a) : Sem Flow) (SP X pins D) X.xe t4) X.xe { t1 with heap := hA } := by
      rw [hf]
      exact HandSPX.setFlight_upZ flA fun hB held upB => wpAny_throw (tk _ _ ⟨a, B, sI, pins, σ1, H1, cls, d, rfl, Iin, inB, (risen.trans upA).trans upB, by rw [hs]; exact .inr (.inr held), Ha, eos, bares, onNo rfl⟩)
    first
      | exact wpAny_bind (wpAny_pure (wpAny_bind away))
      | exact wpAny_bind away
  | true =>
    refine codeAny_handlers_suite_as (HandSPX.lands_againZ flA fun hB flB upB => ?_)
    have IB : Inv X pins σ1 H1 { t1 with heap := hB } := Iin.landed inB flB.1 ((risen.trans upA).trans upB) eos bares
    obtain ⟨obB, vsB, getB, zB, datB⟩ := flB.there
    have IT : Inv X pins σ1 (upd H1 a (ExV cls d a)) { t1 with heap := hB } := Inv.track IB Ha (fun b _ h => apart b h) (fun b h => by
      cases z : X.s_0.heap.get? b with
      | none => exact (h z).elim
      | some o =>
        obtain ⟨o', e⟩ := IB.base.there b o z (by rw [hx]; simp)
        rw [e]; simp) (exV_ok getB zB datB)
    refine store_ok (X := X.suite a (X.pn ++ pins)) (v := .ref a) (inSuite IT) hN hi (.inl hln) rfl (fun tC IC => ?_) (.inr hln)
    refine wpAny_mono ((hsu a (X.pn ++ pins)).run [] tC _ _ _ IC (onYes rfl a Ha)) (fun f tD ends => ?_) (fun _ _ z => z.elim)
    have unbound : ∀ {σ6 : L2.St} {H6 : Hp} {Q : Shared → Prop}, Inv (X.suite a (X.pn ++ pins)) [] σ6 H6 tD → (∀ t7, Inv X pins (σ6.set i none) H6 t7 → Q t7) → wpAny (model X.prog X.w) X.A (do bindName X.env n .none; unbindBehindTheSuite X.env n pos') (fun _ t7 => Q t7) X.xe tD := fun {σ6 H6 Q} I6 hq => gone_ok (outSuite I6) hN hi hln hq
    cases f with
    | next => obtain ⟨σ6, H6, I6, q6⟩ := ends; exact unbound I6 fun t7 I7 => ⟨_, _, I7, q6⟩
    | ret u => obtain ⟨v6, σ6, H6, I6, r6, q6⟩ := ends; exact unbound I6 fun t7 I7 => ⟨_, _, _, I7, r6, q6⟩
    | brk => obtain ⟨σ6, H6, I6, q6⟩ := ends; exact unbound I6 fun t7 I7 => ⟨_, _, I7, q6⟩
    | cont => obtain ⟨σ6, H6, I6, q6⟩ := ends; exact unbound I6 fun t7 I7 => ⟨_, _, I7, q6⟩⟩
end WR
namespace WR
open PySem PySem.Spec PyProof.Rows L2 LamX
/-! ### a lambda is made: what the maker's table has to say -/
def TabR (H : Hp) (P : Addr) (q : Str) (ps : Array Value) : Prop := H P = some (.tbl ps) ∧ TriplesOk ps.toList ∧ ∀ (pos : Pos) (cv : Value), codeAmong pos ps.toList = some cv → ∃ c, cv = .ref c ∧ H c = some (CodeO c q)
theorem lam_new {X : Cx} {pins : List (Addr × Obj)} {σ : L2.St} {H : Hp} {s : Shared} {c P : Addr} {ps : Array Value} {params : Arguments} {body : Expr} {scope : Scope} {pos : Pos} {E : Value → Shared → Prop} {Q : Value → Shared → Prop} (I : Inv X pins σ H s) (tb : TabB X.base X.mg c P) (code : X.env.code = .ref c) (tr : TabR H P (X.env.qual ++ "<lambda>") ps) (noDef : defaultsOf params X.env = ([], [])) (fr : ∀ y ∈ scope.names, y.2 = .free → ∃ c, X.env.cells.lookup y.1 = some c)
    (h : ∀ (f c' : Addr) (pm ctv : Value) (H1 : Hp) (s' : Shared), Inv X pins σ H1 s' → (H1 = H ∨ ∃ l k : Value, H c' = none ∧ P ≠ c' ∧ H1 = upd (upd H P (.tbl (ps ++ #[l, k, .ref c']))) c' (CodeO c' (X.env.qual ++ "<lambda>")) ∧ TriplesOk (ps ++ #[l, k, .ref c']).toList ∧ ∀ (p : Pos) (cv : Value), codeAmong p (ps ++ #[l, k, .ref c']).toList = some cv → codeAmong p ps.toList = some cv ∨ cv = .ref c') →
      s'.heap.get? f = some (PySem.W.kla_obj "<lambda>" (X.env.qual ++ "<lambda>") params body scope (cloFrom X.env.cells scope.names []) pm c' ctv) → H1 f = none → f ∉ frs X.stack → H1 c' = some (CodeO c' (X.env.qual ++ "<lambda>")) → Q (.ref f) s') :
    wpAny (model X.prog X.w) X.A (eval (.Lambda params body scope pos) X.env) Q E s := by
  obtain ⟨at_, tri, ent⟩ := tr
  have bP : s.heap.BuiltinsAt X.mg P := tb.bm.keeps I.bk
  have gP : s.heap.get? P = some { cls := .none, data := .fields ps } := I.hok P _ at_
  have outer : ∀ f, s.heap.objs.size ≤ f → f ∉ frs X.stack := fun f big z => (List.mem_cons.mp (I.stkSub _ z)).elim (fun e => absurd I.lt (Nat.not_lt.mpr (by rw [← e]; exact big))) fun e => I.nofs big e
  refine PySem.W.kla_eval noDef ?_
  cases hit : codeAmong pos ps.toList with
  | some cv =>
    obtain ⟨c', e, known⟩ := ent pos cv hit
    subst e
    refine PySem.W.kla_makeFunctionHit (mg := X.mg) (c := c) (P := P) (ps := ps) (closure_ok fr) I.ok.glob (I.mod.glob.keeps I.bk) code (tb.code.keeps I.bk) gP tri hit bP fun ctv h1 tk more big => ?_
    have I1 : Inv X pins σ H { s with heap := h1.push (PySem.W.kla_obj "<lambda>" (X.env.qual ++ "<lambda>") params body scope (cloFrom X.env.cells scope.names []) ((X.mg "__name__").getD .none) c' ctv), toks := tk } := I.kept fun b o e => Heap.get?_push_of_some _ (more b o e)
    exact h h1.objs.size c' ((X.mg "__name__").getD .none) ctv H _ I1 (.inl rfl) (Heap.get?_push_size _ rfl) (I.hok.fresh big) (outer _ big) known
  | none =>
    refine PySem.W.kla_makeFunction (mg := X.mg) (c := c) (P := P) (ps := ps) (closure_ok fr) I.ok.glob (I.mod.glob.keeps I.bk) code (tb.code.keeps I.bk) gP tri hit tb.gP bP fun c' ctv h1 tk more big lt rec tab => ?_
    obtain ⟨_, ob, fs, nm, e, gob, dob, qob⟩ := rec
    cases e
    have big1 : s.heap.objs.size ≤ h1.objs.size := Nat.le_trans big (Nat.le_of_lt lt)
    have fresh : H c' = none := I.hok.fresh big
    have ne : P ≠ c' := ne_of_none at_ fresh
    have I1 := inv_table (t' := tk) (more := #[rawInt pos.line, rawInt pos.col, .ref c']) (h' := h1.push (PySem.W.kla_obj "<lambda>" (X.env.qual ++ "<lambda>") params body scope (cloFrom X.env.cells scope.names []) ((X.mg "__name__").getD .none) c' ctv)) I at_ (fun b o nb e => Heap.get?_push_of_some _ (more b o nb e)) (Heap.get?_push_of_some _ tab) big ⟨ob, fs, nm, Heap.get?_push_of_some _ gob, dob, qob⟩
    have eL : (ps ++ #[rawInt pos.line, rawInt pos.col, .ref c']).toList = ps.toList ++ [rawInt pos.line, rawInt pos.col, .ref c'] := by simp
    refine h h1.objs.size c' ((X.mg "__name__").getD .none) ctv _ _ I1 (.inr ⟨_, _, fresh, ne, rfl, by rw [eL]; exact PySem.TriplesOk_snoc _ _ _ _ tri, fun p cv e => by
      rw [eL] at e
      exact among_app _ tri e⟩) (Heap.get?_push_size _ rfl) ?_ (outer _ big1) upd_same
    rw [upd_ne (Nat.ne_of_gt lt), upd_ne (Nat.ne_of_gt (Nat.lt_of_lt_of_le (Heap.lt_size gP) big1))]
    exact I.hok.fresh big1
section
variable {Γ : Gam} {F ρ : List Addr} {H : Hp} {st : List O}
theorem RO.table {k : Nat} {a : Addr} (h : RO Γ F ρ H (.tbl k) a) : a = (Γ.tad k).1 ∧ ∃ ps, H a = some (.tbl ps) ∧ TriplesOk ps.toList ∧ ∀ (pos : Pos) (cv : Value), codeAmong pos ps.toList = some cv → ∃ c, cv = .ref c ∧ c ∉ F ∧ c ∉ ρ ∧ H c = some (LamX.CodeO c (Γ.tad k).2) := h
theorem set_same {α : Type} {l : List α} {n : Nat} {x : α} (h : l[n]? = some x) : l.set n x = l := by
  apply List.ext_getElem?
  intro i
  by_cases e : n = i
  · subst e; rw [List.getElem?_set_self (List.getElem?_eq_some_iff.mp h).1, h]
  · rw [List.getElem?_set_ne e]
theorem Post.table {n k : Nat} {a c' : Addr} {ps : Array Value} {l u : Value} (s : SR Γ F ρ H st) (e : st[n]? = some (.tbl k)) (ea : ρ[n]? = some a) (ha : H a = some (.tbl ps)) (fresh : H c' = none) (tri : TriplesOk (ps ++ #[l, u, .ref c']).toList)
    (old : ∀ (pos : Pos) (cv : Value), codeAmong pos ps.toList = some cv → ∃ c, cv = .ref c ∧ c ∉ F ∧ c ∉ ρ ∧ H c = some (LamX.CodeO c (Γ.tad k).2)) (ent : ∀ (p : Pos) (cv : Value), codeAmong p (ps ++ #[l, u, .ref c']).toList = some cv → codeAmong p ps.toList = some cv ∨ cv = .ref c') (hk : a = (Γ.tad k).1) :
    Post Γ F ρ H ρ st (upd (upd H a (.tbl (ps ++ #[l, u, .ref c']))) c' (CodeO c' (Γ.tad k).2)) := by
  have ne : a ≠ c' := ne_of_none ha fresh
  have sw : upd (upd H a (.tbl (ps ++ #[l, u, .ref c']))) c' (CodeO c' (Γ.tad k).2) = upd (upd H c' (CodeO c' (Γ.tad k).2)) a (.tbl (ps ++ #[l, u, .ref c'])) := by
    funext b
    by_cases h1 : b = c'
    · subst h1; rw [upd_same, upd_ne (Ne.symm ne), upd_same]
    · rw [upd_ne h1]
      by_cases h2 : b = a
      · subst h2; rw [upd_same, upd_same]
      · rw [upd_ne h2, upd_ne h2, upd_ne h1]
  rw [sw]
  have p1 : Post Γ F ρ H ρ st (upd H c' (CodeO c' (Γ.tad k).2)) := .laid s.rs fresh
  have s1 := s.post p1
  refine p1.trans s.rs ?_
  have fr := s.fresh fresh
  have w : Post Γ F ρ (upd H c' (CodeO c' (Γ.tad k).2)) ρ (st.set n (.tbl k)) (upd (upd H c' (CodeO c' (Γ.tad k).2)) a (.tbl (ps ++ #[l, u, .ref c']))) := by
    refine .write s1.rs ea ⟨hk, _, upd_same, tri, fun pos cv hc => ?_⟩
    have am : a ∈ ρ := List.mem_of_getElem? ea
    rcases ent pos cv hc with z | z
    · obtain ⟨c, c1, c2, c3, c4⟩ := old pos cv z
      refine ⟨c, c1, c2, c3, ?_⟩
      rw [upd_ne (fun z => c3 (by rw [z]; exact am)), upd_ne (ne_of_none c4 fresh)]; exact c4
    · exact ⟨c', z, fr.1, fr.2, by rw [upd_ne (Ne.symm ne), upd_same]⟩
  rw [set_same e] at w
  exact w
end
/-! ### x(lambda: e), x a def that tells what was raised -/
def mCaught (n k : Nat) (sub : Nat → Option Bool) (m : ME) : ME := fun σ st => match st[n]? with
  | some (.tbl j) => match Nat.beq j k with
    | true => match m σ st with
      | .ok _ st1 => .ok .non st1
      | .exc e st1 => match sub e.c with
        | some true => .ok (.exc e.c e.fs e.vs) st1
        | _ => .no
      | .no => .no
    | false => .no
  | _ => .no
/-- found = None; try: a() / except x as n: found = n; return found -/
def TCaught (K : PySem.W.Frag) (CS : Addr) : (XK → Hp → VK → Prop) → Hp → VK → Prop := fun tl H Q =>
  tl (fun cls d H' => PySem.W.exmOne K cls (.ref CS) = some true ∧ ∀ a, H' a = none → Q (.ref a) (upd H' a (ExV cls d a))) H (fun _ H' => Q .non H')
theorem caught_gives {X : Cx} {Ng : List Str} {x a y e n q : Str} {sg : Scope} {g CS : Addr} {cdg : Value} {p1 p2 p3 p4 p6 p7 p8 p9 pa pb pc pd pe pf : Pos} {j : Nat} (hge : sg.names.lookup e = some .globalImplicit) (hme : X.mg e = some (.ref CS)) (hde : (e == ("__debug__" : Str)) = false)
    (hNg : Ng = [a, y, n]) (nd : Ng.Nodup) (hy : sg.names.lookup y = some .local) (hn : sg.names.lookup n = some .local) (dy : (y == ("__debug__" : Str)) = false) (cy : (y == ("__classdict__" : Str)) = false) (dn : (n == ("__debug__" : Str)) = false) (cn : (n == ("__classdict__" : Str)) = false)
    (hsw : ∀ (Z : Cx), swapsWith (.Constant .none j pa) (some (.Name y pb)) pc.line Z.env = pure false) (hsw2 : ∀ (Z : Cx), swapsWith (.Name n p6) (some (.Name y p7)) p8.line Z.env = pure false) (hsw3 : ∀ Z : Cx, swapsWith (.Call (.Name a p1) [] [] p2) none p3.line Z.env = pure false) :
    GivesTo X Ng x sg g cdg [.Assign [.Name y pb] (.Constant .none j pa) pc, .Try [.Expr (.Call (.Name a p1) [] [] p2) p3] [.ExceptHandler (some (.Name e p4)) (some n) [.Assign [.Name y p7] (.Name n p6) p8] p9] [] [] pd, .Return (some (.Name y pe)) pf] a q (TCaught X.K CS) := by
  intro f c' s H Q tl act hc h
  subst hNg
  refine ⟨_, pss_cons (ps_set (i := 1) nd rfl (.inl hy) pe_non (hs := hsw _)) (pss_cons (ps_try_asV (X := (cxOf C8.CX0 X.prog X.w X.K X.mg X.base [a, y, n] x sg g cdg X.A X.stack s H C8.E0).nox) (c := .ref CS) (i := 2)
      (tb := fun W D σ H => ∃ Ech : XK, (∀ cls d (σ' : L2.St) H', Ech cls d H' → σ'.length = 3 → W cls d σ' H') ∧ σ[0]? = some (some (.ref f)) ∧ H c' = some (CodeO c' q) ∧ tl Ech H (fun _ H' => D.nx σ H'))
      rfl rfl rfl nd rfl hn ⟨hge, hde, .inl hme⟩ L2.takes0 (fun W pn xe tk _ => ?_) (fun a pn => pss_one (ps_set (i := 1) nd rfl (.inl hy) (pe_var (i := 2) rfl (.inl hn) dn cn) (hs := hsw2 _)))) (pss_one (ps_ret (pe_var (i := 1) rfl (.inl hy) dy cy)))), ?_⟩
  · refine ⟨fun pins s' σ H' D I h' => ?_⟩
    obtain ⟨Ech, hW, h1, h2, h3⟩ := h'
    have hp := act (fun cls d σ' H' => σ'.length = 3 → W cls d σ' H') pn xe Ech p1 p2 (fun u s2 ⟨a, B, sI, pins, σ3, H3, cls, d, e, I, nb, up, sky, na, os, ag, w⟩ => tk u s2 ⟨a, B, sI, pins, σ3, H3, cls, d, e, I, nb, up, sky, na, os, ag, w I.len⟩) fun cls d σ' H' z l => hW cls d σ' H' z l
    exact (pss_one (ps_expr (pos := p3) hp (hsw3 _))).run pins s' σ H' D I ⟨h1, h2, h3⟩
  · refine ⟨fun cls d H' => PySem.W.exmOne X.K cls (.ref CS) = some true ∧ ∀ a, H' a = none → Q (.ref a) (upd H' a (ExV cls d a)), fun cls d σ' H' z l => ?_, rfl, hc, ?_⟩
    · refine ⟨true, z.1, fun _ b hb => ?_, fun z => by cases z⟩
      match σ', l with
      | [u0, u1, u2], _ => exact ⟨.ref b, rfl, .ref b, rfl, z.2 b hb⟩
    · have eQ : (fun (_ : V) (H' : Hp) => ∃ v, (List.set (L2.start [a, y, n] [V.ref f]) 1 (some V.non))[1]? = some (some v) ∧ Q v H') = fun _ H' => Q .non H' := by
        funext v H'
        refine propext ⟨fun ⟨v, e, q⟩ => ?_, fun q => ⟨.non, rfl, q⟩⟩
        have e2 : some (some V.non) = some (some v) := e
        cases e2
        exact q
      show tl _ H (fun (_ : V) (H' : Hp) => ∃ v, (List.set (L2.start [a, y, n] [V.ref f]) 1 (some V.non))[1]? = some (some v) ∧ Q v H')
      rw [eQ]
      exact h
abbrev WF (E : XK) : WX := fun cls d _ H => E cls d H
theorem sE_caught {Γ : Gam} {X : Cx} {W : WX} (n k : Nat) {sub : Nat → Option Bool} {m : ME} {x a : Str} {g c P CS : Addr} {kk : Nat} {pg : Arguments} {bg : List Stmt} {sg : Scope} {fd : FuncData} {Ng : List Str} {params : Arguments} {body : Expr} {scope : Scope} {p lpos pos : Pos}
    (hm : X.mg x = some (.ref g)) (hk : PySem.W.keepIn X.K (.ref g) = true) (Fd : FunD X.K x x pg bg sg [] [] g fd) (hb : L2.Binds X.K fd [a] []) (Sg : FnScope Ng [a] sg) (hNg : Ng[0]? = some a) (hva : Vis sg a) (hG : ∀ cdv, GivesTo X Ng x sg g cdv bg a (X.env.qual ++ "<lambda>") (TCaught X.K CS))
    (TB : TabB X.base X.mg c P) (hcode : X.env.code = .ref c) (htad : Γ.tad k = (P, X.env.qual ++ "<lambda>")) (hr : Room (kk + 2) X.A) (L : LamS X.env.scope scope) (hsub : ∀ j, sub j = some true → PySem.W.exmOne X.K (.ref (Γ.cad j)) (.ref CS) = some true)
    (hbody : ∀ (A : Around) (outer : List Env) (s : Shared) (H : Hp) (E : XK) (f c' : Addr), Room kk (A.deeper (lamEnv X scope s.heap.objs.size f c')) → SE Γ (lamCx X A outer s H E scope f c') (WF E) body m)
    (hdef : defaultsOf params X.env = ([], []) := by rfl) (hbind : ∀ (q : Str) (cl : List (Str × Addr)) (pm cv ctv : Value), bindArgs (PySem.W.kla_fn "<lambda>" q params body scope cl pm cv ctv) ⟨[], []⟩ = pure [] := by intro _ _ _ _ _; rfl) (hg : Gl X x := by rfl)
    (hdb : (x == ("__debug__" : Str)) = false := by decide) (hd : (a == ("__debug__" : Str)) = false := by decide) (hcd : (a == ("__classdict__" : Str)) = false := by decide) : SE Γ X W (.Call (.Name x p) [.Lambda params body scope lpos] [] pos) (mCaught n k sub m) := by
  refine ⟨fun pins s0 σ H Q I pre => ?_⟩
  obtain ⟨σp, F, ρ, st, sr, re, h⟩ := pre
  unfold mCaught at h
  cases q1 : st[n]? with
  | none => rw [q1] at h; exact h.elim
  | some o =>
    rw [q1] at h
    cases o with
    | tbl j =>
      simp only at h
      cases q2 : Nat.beq j k with
      | false => rw [q2] at h; exact h.elim
      | true =>
        rw [q2] at h
        have ej := Nat.eq_of_beq_eq_true q2
        subst ej
        have hn : n < ρ.length := by rw [sr.rs.len]; exact (List.getElem?_eq_some_iff.mp q1).1
        obtain ⟨e0, ps, hP, tri, old⟩ := RO.table (sr.rs.at_ n _ ρ[n] q1 (List.getElem?_eq_getElem hn))
        have eP : ρ[n] = P := by rw [e0, htad]
        rw [eP] at hP
        have eq2 : (Γ.tad j).2 = X.env.qual ++ "<lambda>" := by rw [htad]
        obtain ⟨oc, od, dV, kV, doc, pm0, an, cdv, ct, osl, rfl, lk, hcg, _, _⟩ := Fd.ex
        refine wpAny_Call_Name_kw (ld_glob I hg hm ?_ hdb)
        refine PySem.W.callWith_K (h₀ := X.base) I.ok.mod.kin hk ?_ (by rfl) (by rfl)
        show wpAny _ _ (spliced ((false, eval (.Lambda params body scope lpos) X.env) :: backTo pos (starEach [] X.env))) _ _ s0
        refine Calls.spliced_cons (lam_new I TB hcode ⟨hP, tri, fun pos cv e => ?_⟩ hdef (L.has I.ok) fun f c' pm ctv H1 s1 I1 how hf hfn hfr hco => ?_)
        · obtain ⟨c0, z1, _, _, z2⟩ := old pos cv e
          exact ⟨c0, z1, by rw [← eq2]; exact z2⟩
        have po : Post Γ F ρ H ρ st H1 := by
          rcases how with how | ⟨l, u, fresh, ne, e, tri2, ent⟩
          · subst how; exact .refl sr.rs
          · rw [e, ← eq2]
            exact Post.table sr q1 (by rw [List.getElem?_eq_getElem hn, eP]) hP fresh tri2 old ent (by rw [htad])
        have sr1 := sr.post po
        have told : TCaught X.K CS (fun E H' Q' => tEv Γ m (WF E) σ H' Q') H1 Q := by
          refine ⟨σp, F, ρ, st, sr1, re.post sr po, ?_⟩
          cases q3 : m σp st with
          | no => rw [q3] at h; exact h
          | ok t st1 =>
            rw [q3] at h
            exact fun v H2 ρ2 p2 _ => h .non H2 ρ2 (po.trans sr.rs p2) rfl
          | exc e st1 =>
            rw [q3] at h
            simp only at h
            split at h
            · rename_i e1
              intro cls d H2 ρ2 p2 rx
              obtain ⟨z1, z2⟩ := rx
              subst z1
              refine ⟨hsub _ e1, fun a ha => ?_⟩
              have s2 := sr1.post p2
              have p3 : Post Γ F ρ2 H2 ρ2 st1 (upd H2 a (ExV (.ref (Γ.cad e.c)) d a)) := .laid s2.rs ha
              refine h (.ref a) _ ρ2 ((po.trans sr.rs p2).trans sr.rs p3) ⟨a, d, rfl, (s2.fresh ha).1, (s2.fresh ha).2, upd_same, ?_⟩
              rcases z2 with ⟨y1, y2, y3⟩ | ⟨dd, fvs, y1, y2, y3, y4, y5, y6⟩
              · exact .inl ⟨y1, y2, p3.rvs s2.rs y3⟩
              · exact .inr ⟨dd, fvs, y1, y2, y3, by rw [upd_ne (ne_of_none y4 ha)]; exact y4, y5, p3.rvs s2.rs y6⟩
            · exact h.elim
        refine Calls.spliced_nil ⟨I1.kIn, ?_⟩
        refine wpAny_call (codeAny_mono (run_ofS (CX := C8.CX0) (N := Ng) (ps := [a]) (us := [.ref f]) (vs := [.ref f]) (Q := Q) (E := C8.E0) lk hcg Sg hr I1.env0 (hb s1 [.ref f] I1.kIn rfl) (.cons rfl .nil) rfl fun hr2 => ?_) fun r s2 hq => ?_)
        · obtain ⟨t1, ht1, hq1⟩ := hG cdv f c' s1 H1 Q (fun E H' Q' => tEv Γ m (WF E) σ H' Q') (fun W pn xe E p1 p2 tk hW => pe_act (i := 0) I1 L hf hfn hfr (hbind _ _ _ _ _) tk hW hr2 (fun A outer s H hr3 => hbody A outer s H E f c' hr3) hNg hva hd hcd) hco told
          exact ⟨t1, ht1.nox, hq1⟩
        · cases r with
          | error e => exact (show False from hq).elim
          | ok fl =>
            cases fl with
            | ret u => exact I1.after hq
            | next => exact False.elim hq
            | brk => exact False.elim hq
            | cont => exact False.elim hq
    | _ => exact h.elim
end WR
namespace WR
open PySem PySem.Spec PyProof.Rows L2
/-! ### == of tuples with dicts in them -/
def eqAll (f : T → T → Bool) : List T → List T → Bool
  | [], [] => true
  | x :: xs, y :: ys => match f x y with
    | true => eqAll f xs ys
    | false => false
  | _, _ => false
def eqKeys (f : T → T → Bool) (ls : List Key) (ws : List T) : List Key → List T → Bool
  | [], [] => true
  | k :: ks, v :: vs => match lookT ls ws k with
    | some w => match f v w with
      | true => eqKeys f ls ws ks vs
      | false => false
    | none => false
  | _, _ => false
def eqXt (st : List O) : Nat → T → T → Bool
  | 0, _, _ => false
  | n + 1, a, b => match eqD st a b with
    | some k => k
    | none => match dctT st a, dctT st b with
      | some (ks, vs), some (ls, ws) => match Nat.beq ks.length ls.length with
        | true => eqKeys (eqXt st n) ls ws ks vs
        | false => false
      | _, _ => match a, b with
        | .tup xs, .tup ys => eqAll (eqXt st n) xs ys
        | _, _ => false
section
variable {Γ : Gam} {F ρ : List Addr} {H : Hp} {st : List O}
def FEq (Γ : Gam) (F ρ : List Addr) (H : Hp) (f : T → T → Bool) (x y : V) : Prop := ∃ t t', RV Γ F ρ H t x ∧ RV Γ F ρ H t' y ∧ f t t' = true
theorem eqAll_ok {f : T → T → Bool} : ∀ {xs ys : List T} {vs ws : List V}, eqAll f xs ys = true → RVs Γ F ρ H xs vs → RVs Γ F ρ H ys ws → Paired (FEq Γ F ρ H f) vs ws
  | [], [], vs, ws, _, r1, r2 => by rw [show vs = [] from r1, show ws = [] from r2]; exact .nil
  | [], _ :: _, _, _, e, _, _ => by cases e
  | _ :: _, [], _, _, e, _, _ => by cases e
  | x :: xs, y :: ys, vs, ws, e, r1, r2 => by
    obtain ⟨v, vr, rfl, a1, a2⟩ := r1
    obtain ⟨w, wr, rfl, b1, b2⟩ := r2
    unfold eqAll at e
    cases q : f x y with
    | false => rw [q] at e; cases e
    | true => rw [q] at e; exact .cons ⟨x, y, a1, b1, q⟩ (eqAll_ok e a2 b2)
theorem eqKeys_ok {f : T → T → Bool} {ls : List Key} {ws : List T} {lvs : List (Key × V)} (h1 : lvs.map (·.1) = ls) (h2 : RVs Γ F ρ H ws (lvs.map (·.2))) : ∀ {kvs : List (Key × V)} {vs : List T}, eqKeys f ls ws (kvs.map (·.1)) vs = true → RVs Γ F ρ H vs (kvs.map (·.2)) → ∀ p ∈ kvs, ∃ u, valV lvs p.1 = some u ∧ FEq Γ F ρ H f p.2 u
  | [], _, _, _ => fun p hp => nomatch hp
  | kv :: kvs, [], e, _ => by simp [eqKeys] at e
  | kv :: kvs, v :: vs, e, r => by
    obtain ⟨y, yr, e0, r1, r2⟩ := r
    simp only [List.map_cons, List.cons.injEq] at e0
    obtain ⟨e1, e2⟩ := e0
    subst e1; subst e2
    simp only [List.map_cons, eqKeys] at e
    split at e
    · rename_i w e3
      split at e
      · rename_i e4
        intro p hp
        rcases List.mem_cons.mp hp with z | z
        · subst z
          obtain ⟨u, e5, ru⟩ := (lookT_ok (k := p.1) h1 h2).1 w e3
          exact ⟨u, e5, v, w, r1, ru, e4⟩
        · exact eqKeys_ok h1 h2 e r2 p z
      · cases e
    · cases e
theorem rd_dict {P : Program} {w : World} {H : Hp} {h : Heap} {a : Addr} {kvs : List (Key × V)} (hok : HOk P w H h) (r : Rd H a (.dK kvs)) : (a == sysModules) = false ∧ ∃ vs, KV kvs vs ∧ h.DictOf (mixKind P w) a vs := by
  rcases r with r | ⟨o, r⟩
  · obtain ⟨_, y, v⟩ := (show ObjOk P w H h a (.dK kvs) from hok a _ r); exact ⟨y, v⟩
  · obtain ⟨_, _, y, v⟩ := (show ObjOk P w H h a (.frz o (.dK kvs)) from hok a _ r); exact ⟨y, v⟩
theorem eqX_run {X : Cx} {pins : List (Addr × Obj)} {σ : L2.St} {sh : Shared} (hK : X.K = Γ.K) (s : SR Γ F ρ H st) (I : Inv X pins σ H sh) : ∀ (n : Nat) (A : Around), A.units + 64 + n < cLine → ∀ (a b : T) (x y : V) (v u : Value), eqXt st n a b = true → RV Γ F ρ H a x → RV Γ F ρ H b y → RelV x v → RelV y u → SeqAt.EqP X.prog X.w A sh v u true
  | 0, _, _, _, _, _, _, _, _, h, _, _, _, _ => by cases h
  | n + 1, A, hu, a, b, x, y, v, u, h, ra, rb, rx, ry => by
    unfold eqXt at h
    cases q : eqD st a b with
    | some k =>
      rw [q] at h
      have hk : k = true := h
      subst hk
      obtain ⟨d, e, h1, h2, h3, h4, h5⟩ := eqD_ok s ra rb q
      rw [← hK] at h1 h2
      obtain ⟨as, r1⟩ := Dp.reads I d x v h1 rx
      obtain ⟨bs, r2⟩ := Dp.reads I e y u h2 ry
      have := SeqAt.eqAt_reads d e A sh v u as bs r1 r2 (SeqAt.canLay_of_shaped h3) (SeqAt.canLay_of_shaped h4) (SeqAt.room_of_shaped h3 (by omega))
      rw [h5] at this
      exact this.eqP
    | none =>
      rw [q] at h
      have F1 : ∀ (x y : V) (v u : Value), FEq Γ F ρ H (eqXt st n) x y → RelV x v → RelV y u → SeqAt.EqP X.prog X.w A.in1 sh v u true := fun x y v u ⟨t, t', g1, g2, g3⟩ r1 r2 => eqX_run hK s I n A.in1 (by show A.units + 1 + 64 + n < cLine; omega) t t' x y v u g3 g1 g2 r1 r2
      simp only at h
      split at h
      · rename_i ks vs ls ws e1 e2
        split at h
        · rename_i e3
          obtain ⟨p, kvs, rfl, a1, a2, a3⟩ := dctT_ok s.rs e1 ra
          obtain ⟨p', lvs, rfl, b1, b2, b3⟩ := dctT_ok s.rs e2 rb
          cases (show v = Value.ref p from rx)
          cases (show u = Value.ref p' from ry)
          by_cases ep : p = p'
          · subst ep; exact (SeqAt.EqAt.same _).eqP
          · refine SeqAt.eqP_refs ep fun E Q hq => ?_
            subst a2
            obtain ⟨ya, va, rva, da⟩ := rd_dict I.hok a1
            obtain ⟨yb, vb, rvb, db⟩ := rd_dict I.hok b1
            refine PySem.W.rcP_dicts (knd := mixKind X.prog X.w) (r := true) ya yb da db (by omega) (fun _ => hits_run F1 rvb rva (eqKeys_ok b2 b3 h a3)) E Q ?_
            have e4 : va.length = vb.length := by
              have e5 := Nat.eq_of_beq_eq_true e3
              rw [← rva.length, ← rvb.length]
              rw [List.length_map, ← b2, List.length_map] at e5
              exact e5
            rw [show (va.length == vb.length && true) = true from by rw [e4]; simp]
            exact hq
        · cases h
      · split at h
        · rename_i xs ys _ _
          obtain ⟨p, vs, rfl, a1, a2⟩ := ra
          obtain ⟨p', ws, rfl, b1, b2⟩ := rb
          cases (show v = Value.ref p from rx)
          cases (show u = Value.ref p' from ry)
          by_cases ep : p = p'
          · subst ep; exact (SeqAt.EqAt.same _).eqP
          · refine SeqAt.eqP_refs ep fun E Q hq => ?_
            have pr := eqAll_ok h a2 b2
            obtain ⟨us, c1, c2, _⟩ := I.tuple (show SqT X.K H p vs from by rw [hK]; exact tupK_sq a1)
            obtain ⟨zs, d1, d2, _⟩ := I.tuple (show SqT X.K H p' ws from by rw [hK]; exact tupK_sq b1)
            have hsz : us.toArray.size = zs.toArray.size := by rw [List.size_toArray, List.size_toArray, ← c1.length, ← d1.length]; exact pr.length
            refine GQ.rc_tupG hsz (by omega) (fun _ s' => s' = sh) (show sh.heap.IsTuple p us.toArray from c2) (show sh.heap.IsTuple p' zs.toArray from d2) (fun j h1 h2 s' es => ?_) (fun s' es => by rw [es]; exact hq) rfl
            subst es
            have := items_run F1 pr c1 d1 j (by simpa using h1) (by simpa using h2)
            exact this E (fun r s2 => r = true ∧ s2 = s') ⟨rfl, rfl⟩
        · cases h
/-- ==: as data, or two tuples that are equal -/
def eqX (a b : T) (st : List O) : Rs T := match eqT a b st with
  | .no => match a, b with
    | .tup xs, .tup ys => match eqAll (eqXt st 30) xs ys with
      | true => .ok (.bl true) st
      | false => .no
    | _, _ => .no
  | r => r
def rEqX (Γ : Gam) : R2 := fun x y H Q => rEqA Γ.K x y H Q ∨ ∃ (F ρ : List Addr) (st : List O) (xs ys : List T), SR Γ F ρ H st ∧ RV Γ F ρ H (.tup xs) x ∧ RV Γ F ρ H (.tup ys) y ∧ eqAll (eqXt st 30) xs ys = true ∧ Q (.bl true) H
theorem op_eqX {X : Cx} (hK : X.K = Γ.K) (hu : X.A.units + 128 < cLine) : OpR X (compareOp .Eq) (rEqX Γ) := by
  rw [show rEqX Γ = fun x y H Q => rEqA X.K x y H Q ∨ ∃ (F ρ : List Addr) (st : List O) (xs ys : List T), SR Γ F ρ H st ∧ RV Γ F ρ H (.tup xs) x ∧ RV Γ F ρ H (.tup ys) y ∧ eqAll (eqXt st 30) xs ys = true ∧ Q (.bl true) H from by rw [hK]; rfl]
  refine (op_eqA (by omega)).or fun pins sh σ H x y v u Q I rx ry hh => ?_
  obtain ⟨F, ρ, st, xs, ys, s, ra, rb, h, q⟩ := hh
  obtain ⟨p, vs, rfl, a1, a2⟩ := ra
  obtain ⟨p', ws, rfl, b1, b2⟩ := rb
  cases (show v = Value.ref p from rx)
  cases (show u = Value.ref p' from ry)
  have pr := eqAll_ok h a2 b2
  obtain ⟨us, c1, c2, _⟩ := I.tuple (show SqT X.K H p vs from by rw [hK]; exact tupK_sq a1)
  obtain ⟨zs, d1, d2, _⟩ := I.tuple (show SqT X.K H p' ws from by rw [hK]; exact tupK_sq b1)
  have hsz : us.toArray.size = zs.toArray.size := by rw [List.size_toArray, List.size_toArray, ← c1.length, ← d1.length]; exact pr.length
  have F1 : ∀ (x y : V) (v u : Value), FEq Γ F ρ H (eqXt st 30) x y → RelV x v → RelV y u → SeqAt.EqP X.prog X.w X.A.in1 sh v u true := fun x y v u ⟨t, t', g1, g2, g3⟩ r1 r2 => eqX_run hK s I 30 X.A.in1 (by show X.A.units + 1 + 64 + 30 < cLine; omega) t t' x y v u g3 g1 g2 r1 r2
  show wpAny _ _ (richCompare .Eq (.ref p) (.ref p')) _ _ _
  refine GQ.rc_tupG hsz (by omega) (fun _ s' => s' = sh) (show sh.heap.IsTuple p us.toArray from c2) (show sh.heap.IsTuple p' zs.toArray from d2) (fun j h1 h2 s' es => ?_) (fun s' es => ?_) rfl
  · subst es
    have := items_run F1 pr c1 d1 j (by simpa using h1) (by simpa using h2)
    exact this _ (fun r s2 => r = true ∧ s2 = s') ⟨rfl, rfl⟩
  · subst es
    exact ⟨.bl true, H, I, rfl, q⟩
theorem ok_eqX : OpOk Γ (rEqX Γ) eqX := fun F ρ st H x y a b Q E s ra rb h => by
  unfold eqX at h
  cases q : eqT a b st with
  | ok t st1 =>
    rw [q] at h
    exact .inl (ok_eq F ρ st H x y a b Q E s ra rb (by rw [q]; exact h))
  | exc e st1 =>
    rw [q] at h
    exact .inl (ok_eq F ρ st H x y a b Q E s ra rb (by rw [q]; exact h))
  | no =>
    rw [q] at h
    simp only at h
    split at h
    · rename_i xs ys
      split at h
      · rename_i e
        exact .inr ⟨F, ρ, st, xs, ys, s, ra, rb, e, Ran.done s h rfl⟩
      · exact h.elim
    · exact h.elim
end
end WR
namespace WR
open PySem PySem.Spec PyProof.Rows L2
/-! ### an own == , an own != by it -/
structure EqC (K : PySem.W.Frag) (C f : Addr) : Prop where
  ex : ∃ (nm q : Str) (N : Addr) (bs : List Value) (hd : Bool) (sn : List Str) (sub : List Value) (ab : Bool) (col : Option Bool) (dd : Option Addr) (k0 k1 k2 k3 k5 : Option Value) (newId : String) (oN oF : Obj) (es : Array DictEntry) (ep : Nat),
    K.lookup C = some (excClassObj nm q C N bs [.type "object"] hd sn sub ab col dd k0 k1 k2 k3 k5 newId) ∧ K.lookup N = some oN ∧ oN.data = .dict es ep ∧ StrKeys es ∧ nsFind es "__eq__" = some (.ref f) ∧ nsFind es "__ne__" = none ∧ K.lookup f = some oF ∧ oF.cls = .type "function"
  fn : PySem.W.isFn K (.ref f) = true
  at_ : PySem.W.findIn K (.ref C) "__eq__" = some (some (.ref f))
def strKeysB (es : Array DictEntry) : Bool := es.toList.all fun e => match e.key with
  | .str _ _ => true
  | _ => false
theorem strKeysB_ok {es : Array DictEntry} (h : strKeysB es = true) : StrKeys es := fun e he => by
  have := List.all_eq_true.mp h e (by simpa using he)
  split at this
  · rename_i n t e2; exact ⟨n, t, e2⟩
  · cases this
def eqcB (K : PySem.W.Frag) (C f : Addr) : Bool := match K.lookup C with
  | some ⟨.type t, _, .cls cd, sl⟩ => decide (t = "type") && (decide (cd.mro = [.ref C, .type "object"]) && (decide (cd.hasDel = false) && ((match sl with
    | ⟨[_, _, _, _, some (.builtin _), _]⟩ => true
    | _ => false) && ((match K.lookup cd.ns with
    | some ⟨_, _, .dict es _, _⟩ => strKeysB es && (decide (nsFind es "__eq__" = some (.ref f)) && decide (nsFind es "__ne__" = none))
    | _ => false) && ((match K.lookup f with
    | some ⟨.type u, _, _, _⟩ => decide (u = "function")
    | _ => false) && (PySem.W.isFn K (.ref f) && decide (PySem.W.findIn K (.ref C) "__eq__" = some (some (.ref f)))))))))
  | _ => false
theorem eqcB_ok {K : PySem.W.Frag} {C f : Addr} (h : eqcB K C f = true) : EqC K C f := by
  unfold eqcB at h
  split at h
  · rename_i t dd cd sl eC
    simp only [Bool.and_eq_true, decide_eq_true_eq] at h
    obtain ⟨h1, h2, h3, h4, h5, h6, h7, h8⟩ := h
    refine ⟨?_, h7, h8⟩
    obtain ⟨nm, bs, mro, ns, qn, hd, sn, sub, ab, col, del⟩ := cd
    simp only at h2 h3 h5
    subst h1; subst h2; subst h3
    split at h4
    · rename_i k0 k1 k2 k3 id k5
      split at h5
      · rename_i cN dN es ep sN eN
        simp only [Bool.and_eq_true, decide_eq_true_eq] at h5
        split at h6
        · rename_i u dF dtF sF eF
          exact ⟨nm, qn, ns, bs, hd, sn, sub, ab, col, dd, k0, k1, k2, k3, k5, id, _, _, es, ep, eC, eN, rfl, strKeysB_ok h5.1, h5.2.1, h5.2.2, eF, by rw [of_decide_eq_true h6]⟩
        · cases h6
      · cases h5
    · cases h4
  · cases h
theorem lk_obj_eq : ∃ y, typeLookup (.type "object") "__eq__" = pure y := ⟨_, PySem.F.cmp_object.eq.lookup⟩
def rInsOp (Γ : Gam) (neg : Bool) (c : Nat) (m : MF) (E : XK) : R2 := fun x y H Q => ∃ (a b dx dy : Addr) (fs gs : List (Str × V)), x = .ref a ∧ y = .ref b ∧ H a = some (.ins (Γ.cad c) dx fs) ∧ H b = some (.ins (Γ.cad c) dy gs) ∧ spOf Γ 2 m [x, y] H (fun v H' => ∃ k, v = .bl k ∧ Q (.bl (neg != k)) H') E
section
variable {Γ : Gam} {X : Cx} {W : WX} {k : Nat} {f : Addr} {fd : FuncData} {ps : List Str} {c : Nat} {m : MF}
theorem op_neI (hK : X.K = Γ.K) (ec : EqC Γ.K (Γ.cad c) f) (G : FnOk X.prog X.w X.K X.mg X.base (L2.CX X.prog X.w) k f fd ps (spOf Γ 2 m)) (tk : Takes X W) (hW : NoSlots W) (hr : Room (k + 1) X.A) (hu : X.A.units + 128 < cLine) (hb : Binds X.K fd ps []) : OpR X (compareOp .NotEq) (rInsOp Γ true c m (WEx W)) := by
  intro pins s σ H x y v u Q I rx ry h
  obtain ⟨a, b, dx, dy, fs, gs, rfl, rfl, ha, hb2, hsp⟩ := h
  cases (show v = Value.ref a from rx)
  cases (show u = Value.ref b from ry)
  obtain ⟨nm, q, N, bs, hd, sn, sub, ab, col, dd, k0, k1, k2, k3, k5, newId, oN, oF, es, ep, e1, e2, e3, e4, e5, e6, e7, e8⟩ := ec.ex
  rw [← hK] at e1 e2 e7
  obtain ⟨yB, hyB⟩ := lk_obj_eq
  have hA : s.heap.get? a = some (PySem.W.instObj (Γ.cad c) dx) := (show ObjOk X.prog X.w H s.heap a (.ins (Γ.cad c) dx fs) from I.hok a _ ha).2.2.2.1
  have hB : s.heap.get? b = some (PySem.W.instObj (Γ.cad c) dy) := (show ObjOk X.prog X.w H s.heap b (.ins (Γ.cad c) dy gs) from I.hok b _ hb2).2.2.2.1
  have own : s.heap.OwnEqNoNe a (Γ.cad c) f "object" [.type "object"] := ⟨_, oF, nm, q, N, bs, hd, sn, sub, ab, col, dd, k0, k1, k2, k3, k5, newId, nsFind es, yB, hA, rfl, I.kIn _ _ e1, ⟨oN, es, ep, I.kIn _ _ e2, e3, e4, fun _ => rfl⟩, e5, I.kIn _ _ e7, e8, PySem.F.mro_object, hyB, e6⟩
  obtain ⟨hp, g, d, t, os⟩ := s
  refine compareOp_ne_ownEq PySem.F.cmp_object own hB rfl (by omega) ?_
  have e0 : Env0 X.prog X.w X.K X.mg X.base X.A.in1 X.stack ⟨hp, g, d, t, os⟩ H := by
    have e := I.env0
    exact ⟨e.frames, e.mod, e.bs, e.bsz, e.funs, e.frf, e.hok, e.bare⟩
  have r2 : Vals [V.ref a, V.ref b] [Value.ref a, Value.ref b] := .cons rfl (.cons rfl .nil)
  have l2 : ([V.ref a, V.ref b] : List V).length = ps.length := G.len _ _ _ _ hsp
  refine wpAny_call (codeAny_mono (G.run X.A.in1 X.stack ⟨hp, g, d, t, os⟩ H ⟨[.ref a, .ref b], []⟩ [.ref a, .ref b] [.ref a, .ref b] _ (WEx W) hr.in1 e0 (by
    have := hb ⟨hp, g, d, t, os⟩ [.ref a, .ref b] I.kIn (by simpa using l2)
    simpa using this) r2 hsp) fun r s' hq => ?_)
  cases r with
  | error e => exact passWE tk hW pins σ H _ e s' I hq
  | ok fl =>
    cases fl with
    | ret w =>
      obtain ⟨z, H', I', rz, j, ez, q⟩ := I.after hq
      subst ez
      cases (show w = Value.bool j from rz)
      refine ⟨j, rfl, .bl (true != j), H', I', ?_, q⟩
      show Value.bool (!j) = Value.bool (true != j)
      cases j <;> rfl
    | next => exact False.elim hq
    | brk => exact False.elim hq
    | cont => exact False.elim hq
theorem op_eqI (hK : X.K = Γ.K) (ec : EqC Γ.K (Γ.cad c) f) (G : FnOk X.prog X.w X.K X.mg X.base (L2.CX X.prog X.w) k f fd ps (spOf Γ 2 m)) (tk : Takes X W) (hW : NoSlots W) (hr : Room k X.A) (hu : X.A.units + 128 < cLine) (hb : Binds X.K fd ps []) : OpR X (compareOp .Eq) (rInsOp Γ false c m (WEx W)) := by
  intro pins s σ H x y v u Q I rx ry h
  obtain ⟨a, b, dx, dy, fs, gs, rfl, rfl, ha, hb2, hsp⟩ := h
  cases (show v = Value.ref a from rx)
  cases (show u = Value.ref b from ry)
  obtain ⟨mA, J, _⟩ := ins_get I.hok ha
  obtain ⟨mB, J', _⟩ := ins_get I.hok hb2
  obtain ⟨od, J, _⟩ := J.look
  obtain ⟨od', J', _⟩ := J'.look
  obtain ⟨mm, hF⟩ := I.fr
  have q1 := ec.at_
  have q2 := ec.fn
  rw [← hK] at q1 q2
  show wpAny _ _ (richCompare .Eq (.ref a) (.ref b)) _ _ _
  refine PySem.W.cmp_K (op := .Eq) (tb := .ref (Γ.cad c)) (by omega) hF I.ok.mod.kin J J'.type (by simp [PySem.W.notFirst]) q1 q2 ?_
  have r2 : Vals [V.ref a, V.ref b] [Value.ref a, Value.ref b] := .cons rfl (.cons rfl .nil)
  have l2 : ([V.ref a, V.ref b] : List V).length = ps.length := G.len _ _ _ _ hsp
  refine wpAny_call (codeAny_mono (G.run X.A X.stack s H ⟨[.ref a, .ref b], []⟩ [.ref a, .ref b] [.ref a, .ref b] _ (WEx W) hr I.env0 (by
    have := hb s [.ref a, .ref b] I.kIn (by simpa using l2)
    simpa using this) r2 hsp) fun r s' hq => ?_)
  cases r with
  | error e => exact passWE tk hW pins σ H s e s' I hq
  | ok fl =>
    cases fl with
    | ret w =>
      obtain ⟨z, H', I', rz, j, ez, q⟩ := I.after hq
      subst ez
      cases (show w = Value.bool j from rz)
      refine ⟨.bl (false != j), H', I', ?_, q⟩
      show Value.bool j = Value.bool (false != j)
      cases j <;> rfl
    | next => exact False.elim hq
    | brk => exact False.elim hq
    | cont => exact False.elim hq
def insOpT (neg : Bool) (c : Nat) (m : MF) (a b : T) (st : List O) : Rs T := match insT st a, insT st b with
  | some (k, _, _), some (j, _, _) => match Nat.beq k c && Nat.beq j c with
    | true => match m [a, b] st with
      | .ok (.bl r) st2 => .ok (.bl (neg != r)) st2
      | .exc e st2 => .exc e st2
      | _ => .no
    | false => .no
  | _, _ => .no
theorem insOp_imp {neg : Bool} {m' : MF} {F ρ : List Addr} {st : List O} {H : Hp} {a b : T} {x y : V} {Q : VK} {E : XK} (hm' : ∀ F ρ st H ts vs Q E, SR Γ F ρ H st → RVs Γ F ρ H ts vs → ts.length = 2 → Ran Γ F (RT Γ F) (m' ts st) ρ st H E Q → spOf Γ 2 m vs H Q E) (s : SR Γ F ρ H st) (ra : RV Γ F ρ H a x) (rb : RV Γ F ρ H b y)
    (h : Ran Γ F (RT Γ F) (insOpT neg c m' a b st) ρ st H E Q) : rInsOp Γ neg c m E x y H Q := by
  unfold insOpT at h
  split at h
  · rename_i k fs vs j gs ws e1 e2
    split at h
    · rename_i e3
      obtain ⟨z1, z2⟩ := Bool.and_eq_true_iff.mp e3
      have z1 := Nat.eq_of_beq_eq_true z1
      have z2 := Nat.eq_of_beq_eq_true z2
      subst z1; subst z2
      obtain ⟨p, dx, f1, rfl, a1, _, _⟩ := insT_ok s.rs e1 ra
      obtain ⟨q, dy, g1, rfl, b1, _, _⟩ := insT_ok s.rs e2 rb
      refine ⟨p, q, dx, dy, f1, g1, rfl, rfl, a1, b1, hm' F ρ st H [a, b] _ _ E s ⟨_, _, rfl, ra, _, _, rfl, rb, rfl⟩ rfl ?_⟩
      cases q3 : m' [a, b] st with
      | no => rw [q3] at h; exact h
      | exc e st2 => rw [q3] at h; exact h
      | ok t st2 =>
        rw [q3] at h
        cases t with
        | bl r => exact fun v H2 ρ2 p2 rv => ⟨r, rv, h (.bl (neg != r)) H2 ρ2 p2 rfl⟩
        | _ => exact h.elim
    · exact h.elim
  · exact h.elim
theorem sE_insOp {neg : Bool} {op : CmpOp} {m' : MF} {e d : Expr} {a b : ME} {pos : Pos} (ho : OpR X (compareOp op) (rInsOp Γ neg c m (WEx W))) (hm' : ∀ F ρ st H ts vs Q E, SR Γ F ρ H st → RVs Γ F ρ H ts vs → ts.length = 2 → Ran Γ F (RT Γ F) (m' ts st) ρ st H E Q → spOf Γ 2 m vs H Q E) (ha : SE Γ X W e a) (hb : SE Γ X W d b) (h1 : behindInMarks op d = false := by rfl) :
    SE Γ X W (.Compare e [op] [d] pos) (mOp (insOpT neg c m') a b) :=
  (pe_cmpR ho ha hb h1).imp fun σ H Q ⟨σp, F, ρ, st, s, re, h⟩ => ⟨σp, F, ρ, st, s, re, Ran.bind s h fun x st1 v H1 ρ1 _ s1 p1 r1 h1 => ⟨σp, F, ρ1, st1, s1, re.post s p1, Ran.bind s1 h1 fun y st2 w H2 ρ2 _ s2 p2 r2 h2 =>
    insOp_imp hm' s2 (p2.rv s1.rs r1) r2 (h2.weakE fun cls d H' z => ⟨σ, z⟩)⟩⟩
end
end WR
namespace WR
open PySem PySem.Spec PyProof.Rows L2
/-! ### constants of the top -/
mutual
def ktB (K : PySem.W.Frag) : Nat → T → Value → Bool
  | 0, _, _ => false
  | n + 1, t, u => match t with
    | .non => match u with
      | .none => true
      | _ => false
    | .bl b => match u with
      | .bool c => b == c
      | _ => false
    | .int i => match u with
      | .int j _ => decide (i = j)
      | _ => false
    | .str x => match u with
      | .str y _ => decide (x = y)
      | _ => false
    | .tup ts => match u with
      | .ref a => match K.lookup a with
        | some ⟨.type c, none, .seq its _, _⟩ => decide (c = "tuple") && (Nat.ble its.size 16777216 && ktsB K n ts its.toList)
        | _ => false
      | _ => false
    | _ => false
def ktsB (K : PySem.W.Frag) : Nat → List T → List Value → Bool
  | 0, _, _ => false
  | n + 1, ts, us => match ts with
    | [] => match us with
      | [] => true
      | _ => false
    | t :: ts => match us with
      | u :: us => ktB K n t u && ktsB K n ts us
      | [] => false
end
mutual
theorem ktB_ok {K : PySem.W.Frag} : ∀ (n : Nat) (t : T) (u : Value), ktB K n t u = true → ∃ v, RelV v u ∧ ∀ (Γ : Gam), Γ.K = K → ∀ F ρ H, RV Γ F ρ H t v
  | 0, _, _, h => by simp [ktB] at h
  | n + 1, t, u, h => by
    cases t with
    | non => cases u <;> simp [ktB] at h; exact ⟨.non, rfl, fun _ _ _ _ _ => rfl⟩
    | bl b => cases u <;> simp [ktB] at h; subst h; exact ⟨.bl _, rfl, fun _ _ _ _ _ => rfl⟩
    | int i => cases u <;> simp [ktB] at h; subst h; exact ⟨.int _, ⟨_, rfl⟩, fun _ _ _ _ _ => rfl⟩
    | str x => cases u <;> simp [ktB] at h; subst h; exact ⟨.str _, ⟨_, rfl⟩, fun _ _ _ _ _ => rfl⟩
    | tup ts =>
      cases u with
      | ref a =>
        simp only [ktB] at h
        split at h
        · rename_i c its m sl e
          simp only [Bool.and_eq_true, decide_eq_true_eq] at h
          obtain ⟨h1, h2, h3⟩ := h
          obtain ⟨vs, r1, r2⟩ := ktsB_ok n ts its.toList h3
          subst h1
          exact ⟨.ref a, rfl, fun Γ hK F ρ H => ⟨a, vs, rfl, .inr ⟨_, its, m, by rw [hK]; exact e, rfl, rfl, by rw [sizeLine_eq]; exact Nat.le_of_ble_eq_true h2, r1, rfl⟩, r2 Γ hK F ρ H⟩⟩
        · cases h
      | _ => simp [ktB] at h
    | _ => simp [ktB] at h
theorem ktsB_ok {K : PySem.W.Frag} : ∀ (n : Nat) (ts : List T) (us : List Value), ktsB K n ts us = true → ∃ vs, Vals vs us ∧ ∀ (Γ : Gam), Γ.K = K → ∀ F ρ H, RVs Γ F ρ H ts vs
  | 0, _, _, h => by simp [ktsB] at h
  | n + 1, ts, us, h => by
    cases ts with
    | nil =>
      cases us with
      | nil => exact ⟨[], .nil, fun _ _ _ _ _ => rfl⟩
      | cons _ _ => simp [ktsB] at h
    | cons t ts =>
      cases us with
      | nil => simp [ktsB] at h
      | cons u us =>
        simp only [ktsB, Bool.and_eq_true] at h
        obtain ⟨v, a1, a2⟩ := ktB_ok n t u h.1
        obtain ⟨vs, b1, b2⟩ := ktsB_ok n ts us h.2
        exact ⟨v :: vs, .cons a1 b1, fun Γ hK F ρ H => ⟨v, vs, rfl, a2 Γ hK F ρ H, b2 Γ hK F ρ H⟩⟩
end
def conB (K : PySem.W.Frag) (x : Str) (t : T) : Bool := match PySem.W.nsIn K mainGlobals x with
  | some (some u) => ktB K 60 t u
  | _ => false
def ConT (K : PySem.W.Frag) (mg : Str → Option Value) (x : Str) (t : T) : Prop := ∃ u v, mg x = some u ∧ RelV v u ∧ ∀ (Γ : Gam), Γ.K = K → ∀ F ρ H, RV Γ F ρ H t v
theorem conB_ok {K : PySem.W.Frag} {h : Heap} {mg : Str → Option Value} {x : Str} {t : T} (X : K.In h) (G : h.Ns mainGlobals mg) (c : conB K x t = true) : ConT K mg x t := by
  unfold conB at c
  split at c
  · rename_i u e
    obtain ⟨v, r1, r2⟩ := ktB_ok 60 t u c
    exact ⟨u, v, PySem.W.mg_of X G e, r1, r2⟩
  · cases c
section
variable {Γ : Gam} {X : Cx} {W : WX}
theorem sE_con {x : Str} {t : T} {pos : Pos} (hK : X.K = Γ.K) (c : ConT X.K X.mg x t) (hg : Gl X x := by rfl) (hd : (x == ("__debug__" : Str)) = false := by decide) : SE Γ X W (.Name x pos) (mC t) := by
  obtain ⟨u, v, h1, h2, h3⟩ := c
  exact sE_glob h1 h2 (fun F ρ H st _ => h3 Γ hK.symm F ρ H) hg hd
theorem sE_cls (c : Nat) {x : Str} {pos : Pos} (hm : X.mg x = some (.ref (Γ.cad c))) (hg : Gl X x := by rfl) (hd : (x == ("__debug__" : Str)) = false := by decide) : SE Γ X W (.Name x pos) (mC (.cls c)) := sE_glob (v := .ref (Γ.cad c)) hm rfl (fun _ _ _ _ _ => rfl) hg hd
theorem sE_ty (n : String) {x : Str} {pos : Pos} (hm : X.mg x = none) (hv : bootBuiltins x = some (.type n)) (hg : Gl X x := by rfl) (hn : x ≠ "__name__" := by decide) (hd : (x == ("__debug__" : Str)) = false := by decide) : SE Γ X W (.Name x pos) (mC (.ty n)) :=
  (pe_bltn (v := .ty n) hg hm hv rfl hn hd).imp fun σ H Q ⟨σp, F, ρ, st, s, re, h⟩ => Ran.done s h rfl
theorem sT_insOp {c : Nat} {m : MF} {neg : Bool} {op : CmpOp} {m' : MF} {e d : Expr} {a b : ME} {pos : Pos} (ho : OpR X (compareOp op) (rInsOp Γ neg c m (WEx W))) (hm' : ∀ F ρ st H ts vs Q E, SR Γ F ρ H st → RVs Γ F ρ H ts vs → ts.length = 2 → Ran Γ F (RT Γ F) (m' ts st) ρ st H E Q → spOf Γ 2 m vs H Q E) (ha : SE Γ X W e a) (hb : SE Γ X W d b) (h1 : behindInMarks op d = false := by rfl) :
    STt Γ X W (.Compare e [op] [d] pos) (mTst (mOp (insOpT neg c m') a b)) :=
  (pt_cmpR ho ha hb h1).imp fun _ _ _ h => tTest_imp (fun _ _ _ ⟨σp, F, ρ, st, s, re, h⟩ => ⟨σp, F, ρ, st, s, re, Ran.bind s h fun x st1 v H1 ρ1 _ s1 p1 r1 h1 => ⟨σp, F, ρ1, st1, s1, re.post s p1, Ran.bind s1 h1 fun y st2 w H2 ρ2 _ s2 p2 r2 h2 =>
    insOp_imp hm' s2 (p2.rv s1.rs r1) r2 (h2.weakE fun cls d H' z => ⟨_, z⟩)⟩⟩) h
end
/-! ### the table of isinstance -/
def tgs : List String := ["NoneType", "bool", "int", "str", "list", "tuple", "dict"]
def tys : List String := ["bool", "int", "str", "list", "tuple", "dict"]
def tgN : Tg → Option String
  | .non => some "NoneType"
  | .bl => some "bool"
  | .int => some "int"
  | .str => some "str"
  | .lst => some "list"
  | .tup => some "tuple"
  | .dct => some "dict"
  | _ => none
def tyT (g : String) (s : String) : Option Bool := match tys.contains s with
  | true => some (decide (g = s) || (decide (g = "bool") && decide (s = "int")))
  | false => none
def isaT (n : Nat) (sub : Nat → Nat → Bool) (ie : Nat → Bool) (g : Tg) (c : T) : Option Bool := match c with
  | .cls d => match Nat.blt d n with
    | true => match g with
      | .ins k => match Nat.blt k n && !ie k with
        | true => some (sub k d)
        | false => none
      | .exc k => match Nat.blt k n && ie k with
        | true => some (sub k d)
        | false => none
      | _ => some false
    | false => none
  | .ty s => match g with
    | .ins k => match Nat.blt k n && !ie k && tys.contains s with
      | true => some false
      | false => none
    | .exc k => match Nat.blt k n && ie k && tys.contains s with
      | true => some false
      | false => none
    | g => match tgN g with
      | some t => tyT t s
      | none => none
  | _ => none
def insB (K : PySem.W.Frag) (C : Addr) : Bool := PySem.W.plainGet K C Str.empty && (PySem.W.hasDictIn K C && (PySem.W.plainOver K C && (decide (PySem.W.findIn K (.ref C) "__setattr__" = some (some (.builtin "object.__setattr__"))) && (decide (PySem.W.findIn K (.ref C) "__class__" = some (some (.builtin "object.__class__"))) &&
  (decide (PySem.W.specialIn K (.builtin "object.__class__") "__get__" = some (some (.builtin "getset_descriptor.__get__"))) && (decide (PySem.W.takesIn K (.builtin "object.__class__") = some true) && decide (PySem.W.mroIn K C (.type "object") = some true)))))))
theorem insB_ok {K : PySem.W.Frag} {C : Addr} (h : insB K C = true) : InsC K C := by
  unfold insB at h
  simp only [Bool.and_eq_true, decide_eq_true_eq] at h
  obtain ⟨a, b, c, d, e, f, g, i⟩ := h
  exact ⟨⟨a, b, c, d⟩, e, f, g, i⟩
def exnB (K : PySem.W.Frag) (D : Addr) : Bool := decide (PySem.W.findIn K (.ref D) "__getattribute__" = some (some (.builtin "BaseException.__getattribute__"))) && (decide (PySem.W.findIn K (.ref D) "__getattr__" = some none) && (decide (PySem.W.subIn K (.ref D) (.type "BaseException") = some true) && (PySem.W.hasDictIn K D &&
  (decide (PySem.W.findIn K (.ref D) "__class__" = some (some (.builtin "object.__class__"))) && (decide (PySem.W.specialIn K (.builtin "object.__class__") "__get__" = some (some (.builtin "getset_descriptor.__get__"))) && (decide (PySem.W.takesIn K (.builtin "object.__class__") = some true) && decide (PySem.W.mroIn K D (.type "object") = some true)))))))
theorem exnB_ok {K : PySem.W.Frag} {C : Addr} (h : exnB K C = true) : ExcC K C := by
  unfold exnB at h
  simp only [Bool.and_eq_true, decide_eq_true_eq] at h
  obtain ⟨a, b, c, d, e, f, g, i⟩ := h
  exact ⟨a, b, c, d, e, f, g, i⟩
def isaB (K : PySem.W.Frag) (cad : Nat → Addr) (n : Nat) (sub : Nat → Nat → Bool) (ie : Nat → Bool) : Bool := ((List.range n).all fun d => tgs.all fun t => decide (PySem.W.kitOne K (.type t) (.ref (cad d)) = some false)) &&
  (((List.range n).all fun c => tys.all fun s => decide (PySem.W.kitOne K (.ref (cad c)) (.type s) = some false)) && (((List.range n).all fun c => (List.range n).all fun d => decide (PySem.W.kitOne K (.ref (cad c)) (.ref (cad d)) = some (sub c d))) &&
  ((List.range n).all fun c => match ie c with
    | true => exnB K (cad c)
    | false => insB K (cad c))))
theorem ty_tab : (tgs.all fun g => tys.all fun s => decide (kitB g s = tyT g s)) = true := by decide +kernel
theorem tgN_mem {g : Tg} {t : String} (h : tgN g = some t) : t ∈ tgs := by cases g <;> simp [tgN] at h <;> subst h <;> decide
theorem tgN_v {Γ : Gam} {g : Tg} {t : String} (h : tgN g = some t) : tgV Γ g = .type t := by cases g <;> simp [tgN] at h <;> subst h <;> rfl
theorem isa_ok {Γ : Gam} {n : Nat} {sub : Nat → Nat → Bool} {ie : Nat → Bool} (h : isaB Γ.K Γ.cad n sub ie = true) : Isa Γ (isaT n sub ie) := by
  unfold isaB at h
  simp only [Bool.and_eq_true, List.all_eq_true, List.mem_range, decide_eq_true_eq] at h
  obtain ⟨h1, h2, h3, h4⟩ := h
  have blt : ∀ {a b : Nat}, Nat.blt a b = true → a < b := fun e => Nat.le_of_ble_eq_true e
  have key : ∀ (k : Nat) (i : Bool) (x : T) (b : Bool), (match Nat.blt k n && i with | true => some (sub k 0) | false => none) = some b → k < n := fun k i x b e => by
    cases q : Nat.blt k n with
    | true => exact blt q
    | false => rw [q] at e; cases e
  refine ⟨fun g c b e => ?_, fun c x b e => ?_, fun c x b e => ?_⟩
  · cases c with
    | cls d =>
      simp only [isaT] at e
      cases qd : Nat.blt d n with
      | false => rw [qd] at e; cases e
      | true =>
        rw [qd] at e
        refine ⟨.ref (Γ.cad d), .ref (Γ.cad d), fun F ρ H w r => r, .own _, ?_⟩
        have plain : ∀ t, tgN g = some t → PySem.W.kitOne Γ.K (tgV Γ g) (.ref (Γ.cad d)) = some false := fun t ht => by rw [tgN_v ht]; exact h1 d (blt qd) t (tgN_mem ht)
        cases g with
        | ins k =>
          simp only at e
          split at e
          · rename_i q
            obtain ⟨q1, q2⟩ := Bool.and_eq_true_iff.mp q
            cases e
            exact h3 k (blt q1) d (blt qd)
          · cases e
        | exc k =>
          simp only at e
          split at e
          · rename_i q
            obtain ⟨q1, q2⟩ := Bool.and_eq_true_iff.mp q
            cases e
            exact h3 k (blt q1) d (blt qd)
          · cases e
        | _ => cases e; exact plain _ rfl
    | ty s =>
      simp only [isaT] at e
      refine ⟨.ty s, .type s, fun F ρ H w r => r, .ty s, ?_⟩
      have plain : ∀ t, tgN g = some t → tyT t s = some b → PySem.W.kitOne Γ.K (tgV Γ g) (.type s) = some b := fun t ht hb => by
        rw [tgN_v ht]
        refine kit_ty ?_
        have hs : s ∈ tys := by
          unfold tyT at hb
          split at hb
          · rename_i q; exact List.contains_iff_mem.mp q
          · cases hb
        have := List.all_eq_true.mp (List.all_eq_true.mp ty_tab t (tgN_mem ht)) s hs
        rw [of_decide_eq_true this]; exact hb
      cases g with
      | ins k =>
        simp only at e
        split at e
        · rename_i q
          simp only [Bool.and_eq_true] at q
          cases e
          exact h2 k (blt q.1.1) s (List.contains_iff_mem.mp q.2)
        · cases e
      | exc k =>
        simp only at e
        split at e
        · rename_i q
          simp only [Bool.and_eq_true] at q
          cases e
          exact h2 k (blt q.1.1) s (List.contains_iff_mem.mp q.2)
        · cases e
      | _ => exact plain _ rfl e
    | _ => simp [isaT] at e
  · have : Nat.blt c n = true ∧ ie c = false := by
      cases x with
      | cls d =>
        simp only [isaT] at e
        cases qd : Nat.blt d n with
        | false => rw [qd] at e; cases e
        | true =>
          rw [qd] at e
          simp only at e
          split at e
          · rename_i q; simp only [Bool.and_eq_true, Bool.not_eq_true'] at q; exact q
          · cases e
      | ty s =>
        simp only [isaT] at e
        split at e
        · rename_i q; simp only [Bool.and_eq_true, Bool.not_eq_true'] at q; exact q.1
        · cases e
      | _ => simp [isaT] at e
    have z := h4 c (blt this.1)
    rw [this.2] at z
    exact insB_ok z
  · have : Nat.blt c n = true ∧ ie c = true := by
      cases x with
      | cls d =>
        simp only [isaT] at e
        cases qd : Nat.blt d n with
        | false => rw [qd] at e; cases e
        | true =>
          rw [qd] at e
          simp only at e
          split at e
          · rename_i q; simp only [Bool.and_eq_true] at q; exact q
          · cases e
      | ty s =>
        simp only [isaT] at e
        split at e
        · rename_i q; simp only [Bool.and_eq_true] at q; exact q.1
        · cases e
      | _ => simp [isaT] at e
    have z := h4 c (blt this.1)
    rw [this.2] at z
    exact exnB_ok z
end WR
namespace WR
open PySem PySem.Spec PyProof.Rows L2
section
variable {Γ : Gam} {X : Cx} {W : WX}
theorem tB_imp {t : TE} {a : ME} (ht : ∀ σ H Q, tEv Γ a W σ H Q → t σ H Q) {σ : L2.St} {H : Hp} {Q : Bool → Hp → Prop} (h : tTv Γ (mTst a) W σ H Q) : tB t σ H Q := by
  obtain ⟨σp, F, ρ, st, s, re, h⟩ := h
  refine ht _ _ _ ⟨σp, F, ρ, st, s, re, Ran.bind s h fun t st1 v H1 ρ1 _ s1 p1 r1 h1 => ?_⟩
  cases t with
  | bl k => exact ⟨k, r1, Ran.done s1 h1 rfl⟩
  | _ => exact h1.elim
theorem sT_din {e d : Expr} {a b : ME} {pos : Pos} (hu : X.A.units + 1 < cLine) (ha : SE Γ X W e a) (hb : SE Γ X W d b) (h1 : behindInMarks .In d = false := by rfl) : STt Γ X W (.Compare e [.In] [d] pos) (mTst (mOp (dinT false) a b)) :=
  (pt_cmp (pc_din hu ha hb) h1).imp fun _ _ _ h => tB_imp (fun σ H Q ⟨σp, F, ρ, st, s, re, h⟩ => ⟨σp, F, ρ, st, s, re, Ran.bind s h fun x st1 v H1 ρ1 _ s1 p1 r1 h1 => ⟨σp, F, ρ1, st1, s1, re.post s p1, Ran.bind s1 h1 fun y st2 w H2 ρ2 _ s2 p2 r2 h2 => dinT_ok s2 (p2.rv s1.rs r1) r2 h2⟩⟩) h
theorem chain_imp {r r' : R2} {f g : T → T → List O → Rs T} {a b c : ME} (hf : OpOk Γ r f) (hg : OpOk Γ r' g) {σ : L2.St} {H : Hp} {Q : VK} (h : tEv Γ (mChain f g a b c) W σ H Q) : tChain r r' (tEv Γ a W) (tEv Γ b W) (tEv Γ c W) σ H Q := by
  obtain ⟨σp, F, ρ, st, s, re, h⟩ := h
  exact ⟨σp, F, ρ, st, s, re, Ran.bind s h fun t st1 v H1 ρ1 _ s1 p1 r1 h1 => ⟨σp, F, ρ1, st1, s1, re.post s p1, Ran.bind s1 h1 fun t2 st2 v2 H2 ρ2 _ s2 p2 r2 h2 =>
    OpOk.ends hf s2 (p2.rv s1.rs r1) r2 h2 fun k st3 v3 H3 ρ3 s3 p3 r3 h3 => by
      cases k with
      | bl k =>
        refine ⟨k, r3, ?_⟩
        cases k with
        | false => exact iteF (Ran.done s3 h3 rfl)
        | true => exact iteT ⟨σp, F, ρ3, st3, s3, ((re.post s p1).post s1 p2).post s2 p3, Ran.bind s3 h3 fun t4 st4 v4 H4 ρ4 _ s4 p4 r4 h4 => hg _ _ _ _ _ _ _ _ _ _ s4 (p4.rv s3.rs (p3.rv s2.rs r2)) r4 h4⟩
      | _ => exact h3.elim⟩⟩
theorem sT_chain {op op' : CmpOp} {r r' : R2} {f g : T → T → List O → Rs T} {e d l : Expr} {a b c : ME} {pos : Pos} (ho : OpR X (compareOp op) r) (ho' : OpR X (compareOp op') r') (hf : OpOk Γ r f) (hg : OpOk Γ r' g) (ha : SE Γ X W e a) (hb : SE Γ X W d b) (hc : SE Γ X W l c)
    (hm : lastMarks [op, op'] [d, l] = false := by with_unfolding_all rfl) : STt Γ X W (.Compare e [op, op'] [d, l] pos) (mTst (mChain f g a b c)) :=
  (pt_chain ho ho' ha hb hc hm).imp fun _ _ _ h => tTest_imp (fun _ _ _ h => chain_imp hf hg h) h
/-! ### what a def is in the text's proof -/
/-- a def keeps its promise, and is bound so -/
structure Kept (P : Program) (w : World) (K : PySem.W.Frag) (mg : Str → Option Value) (base : Heap) (Γ : Gam) (k : Nat) (f : Addr) (ps : List Str) (n : Nat) (m : MF) : Prop where
  ex : ∃ fd, FnOk P w K mg base (L2.CX P w) k f fd ps (spOf Γ n m) ∧ Binds K fd ps []
  kp : PySem.W.keepIn K (.ref f) = true
theorem takesF {P : Program} {w : World} {K : PySem.W.Frag} {mg : Str → Option Value} {base : Heap} {N : List Str} {qual : Str} {scope : Scope} {f : Addr} {cd : Value} {A : Around} {outer : List Env} {s : Shared} {H : Hp} {E : XK} : Takes (cxOf (L2.CX P w) P w K mg base N qual scope f cd A outer s H E) (fun cls d _ H => E cls d H) := takes_of rfl rfl rfl rfl
theorem passF {P : Program} {w : World} {K : PySem.W.Frag} {mg : Str → Option Value} {base : Heap} {N : List Str} {qual : Str} {scope : Scope} {f : Addr} {cd : Value} {A : Around} {outer : List Env} {s : Shared} {H : Hp} {E : XK} :
    PassesOwn (model P w) (cxOf (L2.CX P w) P w K mg base N qual scope f cd A outer s H E).A (cxOf (L2.CX P w) P w K mg base N qual scope f cd A outer s H E).env (cxOf (L2.CX P w) P w K mg base N qual scope f cd A outer s H E).xe := passes_of (X := cxOf (L2.CX P w) P w K mg base N qual scope f cd A outer s H E) (K := fun e s'' => L2.CX P w outer H s E e s'') rfl
theorem noSlotsF {E : XK} : NoSlots (fun cls d _ H => E cls d H) := fun _ _ _ _ _ h => h
theorem noSlots0 : NoSlots W0 := fun _ _ _ _ _ h => h
theorem takesLam {A : Around} {outer : List Env} {s : Shared} {H : Hp} {E : XK} {scope : Scope} {f c' : Addr} : Takes (LamX.lamCx X A outer s H E scope f c') (WF E) := takes_of rfl rfl rfl rfl
theorem Kept.mk' {P : Program} {w : World} {K : PySem.W.Frag} {mg : Str → Option Value} {base : Heap} {k n : Nat} {f : Addr} {fd : FuncData} {x qual : Str} {params : Arguments} {body : List Stmt} {scope : Scope} {N ps : List Str} {b : MS} (F : FunD K x qual params body scope [] [] f fd) (S : FnScope N ps scope) (hn : ps.length = n)
    (hbd : ∀ (kV doc pm : Value) (an : Option Addr) (cdv ct : Value) (us : List Value), us.length = ps.length → bindArgs (PySem.W.fnOf x qual params body scope .none kV doc pm an cdv ct) ⟨us, []⟩ = pure (ps.zip us))
    (hb : ∀ (cdv : Value) (A : Around) (outer : List Env) (s : Shared) (H : Hp) (E : XK), Room k (A.deeper (envOfC qual scope s.heap.objs.size f cdv)) → SSs Γ (cxOf (L2.CX P w) P w K mg base N qual scope f cdv A outer s H E) (fun cls d _ H => E cls d H) body b) :
    Kept P w K mg base Γ (k + 1) f ps n (mDef N.length b) := ⟨⟨fd, fn_ok F S hn hb, F.bindsN hbd⟩, F.kp⟩
section
variable {k : Nat} {f : Addr} {ps : List Str} {x : Str} {p pos : Pos} {e : Expr} {es : List Expr} {n : Nat} {m : MF} {ma : M (List T)}
theorem sE_kall {kx : Nat} (G : Kept X.prog X.w X.K X.mg X.base Γ k f ps n m) (tk : Takes X W) (hr : Room kx X.A) (hk : k ≤ kx) (hm : X.mg x = some (.ref f)) (ha : SA Γ X W (e :: es) ma) (hg : Gl X x := by rfl) (hdb : (x == ("__debug__" : Str)) = false := by decide)
    (he : starEach (e :: es) X.env = (false, eval e X.env) :: starEach es X.env := by rfl) (hpl : (backTo pos (starEach es X.env)).any (·.1) = false := by rfl) : SE Γ X W (.Call (.Name x p) (e :: es) [] pos) (mCall n m [] ma) := by
  obtain ⟨⟨fd, G, b⟩, kp⟩ := G
  exact sE_call G tk (hr.mono hk) hm kp b .nil dts_nil ha hg hdb he hpl
theorem sE_kallI {kx : Nat} (G : Kept X.prog X.w X.K X.mg X.base Γ k f ps n m) (tk : Takes X W) (hr : Room kx X.A) (hk : k ≤ kx) (hm : X.mg x = some (.ref f)) (ha : SA Γ X W (e :: es) ma) (hg : Gl X x := by rfl) (hdb : (x == ("__debug__" : Str)) = false := by decide)
    (he : starEach (e :: es) X.env = (false, eval e X.env) :: starEach es X.env := by rfl) (hpl : (backTo pos (starEach es X.env)).any (·.1) = false := by rfl) : SE Γ X W (.Call (.Name x p) (e :: es) [] pos) (mCall n (iso m) [] ma) := by
  obtain ⟨⟨fd, G, b⟩, kp⟩ := G
  exact sE_callI G tk (hr.mono hk) hm kp b .nil dts_nil ha hg hdb he hpl
end
end
end WR
namespace WR
open PySem PySem.Spec PyProof.Rows L2
theorem ur1 {n : Nat} (h : n + 64 < cLine) : n + 1 < cLine := by omega
theorem ur128 {k : Nat} {A : Around} (h : Room k A) : A.units + 128 < cLine := by have := h.un; omega
section
variable {Γ : Gam} {X : Cx} {W : WX}
variable {k : Nat} {f : Addr} {ps : List Str} {x : Str} {p pos apos : Pos} {e o : Expr} {es : List Expr} {n c : Nat} {m : MF} {ma : M (List T)} {a : ME}
theorem sE_kmeth0 {kx : Nat} {nm : Str} {pl : Sem Bool} (hK : X.K = Γ.K) (hc : Cls Γ.K (Γ.cad c)) (hmt : Meth Γ.K (Γ.cad c) nm f) (G : Kept X.prog X.w X.K X.mg X.base Γ k f ps n m) (tk : Takes X W) (hW : NoSlots W) (hr : Room kx X.A) (hk : k ≤ kx) (ho : SE Γ X W o a)
    (ht : eval (.Call (.Attribute o nm apos) [] [] pos) X.env = (do
      let ov ← eval o X.env
      standAt apos.atName
      let (f, first) ← holding [ov] (getMethod ov nm pl)
      callWith pos f first (backTo pos (starEach [] X.env)) (backToKw pos (keywordEach [] X.env))) := by rfl) : SE Γ X W (.Call (.Attribute o nm apos) [] [] pos) (mMeth c nm n (iso m) [] a mNil) := by
  obtain ⟨⟨fd, G, b⟩, kp⟩ := G
  exact sE_methOf0 ofIso hK hc hmt G tk hW (hr.mono hk) b .nil dts_nil ho ht
theorem sE_kmakeI {kx : Nat} (Mc : Mk X.K (Γ.cad c) f) (G : Kept X.prog X.w X.K X.mg X.base Γ k f ps (n + 1) m) (tk : Takes X W) (hW : NoSlots W) (hr : Room kx X.A) (hk : k + 1 ≤ kx) (hm : X.mg x = some (.ref (Γ.cad c)))
    (ha : SA Γ X W (e :: es) ma) (hg : Gl X x := by rfl) (hdb : (x == ("__debug__" : Str)) = false := by decide) (he : starEach (e :: es) X.env = (false, eval e X.env) :: starEach es X.env := by rfl) (hpl : (backTo pos (starEach es X.env)).any (·.1) = false := by rfl) :
    SE Γ X W (.Call (.Name x p) (e :: es) [] pos) (mCall n (iso (mkM c n m [])) [] ma) := by
  obtain ⟨⟨fd, G, b⟩, kp⟩ := G
  exact sE_makeI Mc G tk hW (hr.mono hk) hm b .nil dts_nil ha hg hdb he hpl
theorem Kept.ne (hK : X.K = Γ.K) (ec : EqC Γ.K (Γ.cad c) f) (G : Kept X.prog X.w X.K X.mg X.base Γ k f ps 2 m) (tk : Takes X W) (hW : NoSlots W) (hr : Room (k + 1) X.A) (hu : X.A.units + 128 < cLine) : OpR X (compareOp .NotEq) (rInsOp Γ true c m (WEx W)) := by
  obtain ⟨⟨fd, G, b⟩, kp⟩ := G
  exact op_neI hK ec G tk hW hr hu b
theorem Kept.eq (hK : X.K = Γ.K) (ec : EqC Γ.K (Γ.cad c) f) (G : Kept X.prog X.w X.K X.mg X.base Γ k f ps 2 m) (tk : Takes X W) (hW : NoSlots W) (hr : Room (k + 1) X.A) (hu : X.A.units + 128 < cLine) : OpR X (compareOp .Eq) (rInsOp Γ false c m (WEx W)) := by
  obtain ⟨⟨fd, G, b⟩, kp⟩ := G
  exact op_eqI hK ec G tk hW (hr.mono (by omega)) hu b
end
/-- an exception class with an own __init__ and the field at -/
structure XCl (K : PySem.W.Frag) (C f : Addr) : Prop where
  oc : OexC K C
  xf : XfC K C
  noAt : PySem.W.findIn K (.ref C) "at" = some none
  ini : PySem.W.findIn K (.ref C) "__init__" = some (some (.ref f))
  fn : PySem.W.typeIn K (.ref f) = some (.type "function")
def oexB (K : PySem.W.Frag) (C : Addr) : Bool := match K.lookup C with
  | some ⟨.type t, _, .cls cd, sl⟩ => decide (t = "type") && ((match cd.mro with
    | .ref C' :: bm => decide (C' = C) && PySem.HandSPX.refsVE bm
    | _ => false) && (decide (cd.hasDel = false) && (decide (cd.hasDict = true) && (match sl with
    | ⟨[_, _, _, _, some (.builtin n), _]⟩ => decide (n = "ValueError.__new__")
    | _ => false))))
  | _ => false
theorem oexB_ok {K : PySem.W.Frag} {C : Addr} (h : oexB K C = true) : ∃ nm q N bs bm sn sub ab col dd k0 k1 k2 k3 k5, K.lookup C = some (excClassObj nm q C N bs bm true sn sub ab col dd k0 k1 k2 k3 k5 "ValueError.__new__") ∧ PySem.HandSPX.refsVE bm = true := by
  unfold oexB at h
  split at h
  · rename_i t dd cd sl eC
    simp only [Bool.and_eq_true, decide_eq_true_eq] at h
    obtain ⟨h1, h2, h3, h4, h5⟩ := h
    obtain ⟨nm, bs, mro, ns, qn, hd, sn, sub, ab, col, del⟩ := cd
    simp only at h2 h3 h4
    subst h1; subst h3; subst h4
    split at h2
    · rename_i C' bm
      simp only [Bool.and_eq_true, decide_eq_true_eq] at h2
      obtain ⟨e1, e2⟩ := h2
      subst e1
      split at h5
      · rename_i k0 k1 k2 k3 id k5
        have h6 := of_decide_eq_true h5
        subst h6
        exact ⟨nm, qn, ns, bs, bm, sn, sub, ab, col, dd, k0, k1, k2, k3, k5, eC, e2⟩
      · cases h5
    · cases h2
  · cases h
def xclB (K : PySem.W.Frag) (C f : Addr) : Bool := oexB K C && (decide (PySem.W.findIn K (.ref C) "__setattr__" = some (some (.builtin "object.__setattr__"))) && (decide (PySem.W.subIn K (.ref C) (.type "BaseException") = some true) && (decide (PySem.W.typeIn K (.ref C) = some (.type "type")) && (PySem.W.keepIn K (.ref C) && (xfB K C &&
  (decide (PySem.W.findIn K (.ref C) "at" = some none) && (decide (PySem.W.findIn K (.ref C) "__init__" = some (some (.ref f))) && decide (PySem.W.typeIn K (.ref f) = some (.type "function")))))))))
theorem xclB_ok {K : PySem.W.Frag} {C f : Addr} (h : xclB K C f = true) : XCl K C f := by
  unfold xclB at h
  simp only [Bool.and_eq_true, decide_eq_true_eq] at h
  obtain ⟨a, b, c, d, e, g, i, j, k⟩ := h
  exact ⟨⟨oexB_ok a, b, c, d, e⟩, xfB_ok g, i, j, k⟩
def baseB (K : PySem.W.Frag) (B : Addr) : Bool := PySem.W.readsIn K B (.type "type") && (decide (PySem.W.specialIn K (.ref B) "__getattribute__" = some (some (.builtin "type.__getattribute__"))) && (match PySem.W.findCls K (.ref B) (.type "type") "__init__" with
  | some (.val (.builtin n)) => decide (n = "ValueError.__init__")
  | _ => false))
theorem baseB_ok {K : PySem.W.Frag} {B : Addr} (h : baseB K B = true) : BaseI K B := by
  unfold baseB at h
  simp only [Bool.and_eq_true, decide_eq_true_eq] at h
  obtain ⟨a, b, c⟩ := h
  refine ⟨a, b, ?_⟩
  split at c
  · rename_i n e
    rw [e, of_decide_eq_true c]
  · cases c
def mCallK (nk n : Nat) (ix : List Nat) (m : MF) (ma : M (List T)) : ME := fun σ st => (ma σ st).bind fun ts st1 => match Nat.beq ts.length nk, Nat.beq (permT ix ts).length n with
  | true, true => m (permT ix ts) st1
  | _, _ => .no
theorem sG_more {Γ : Gam} {X : Cx} {vs vs2 : List Nat} {e : Expr} {g : AG} (h : SG Γ X vs e g) (hv : ∀ i ∈ vs, i ∈ vs2) : SG Γ X vs2 e g :=
  PG.imp h fun v σ H Q ⟨t, σp, F, ρ, st, s, re, r, h⟩ => ⟨t, σp, F, ρ, st, s, re, r, by
    cases q : g t σp with
    | none => rw [q] at h; exact h
    | some σ1 =>
      rw [q] at h
      exact fun σ' re' ky => h σ' re' ⟨ky.1, fun j hj => ky.2 j fun z => hj (hv j z)⟩⟩
end WR
namespace WR
open PySem PySem.Spec PyProof.Rows L2
section
variable {Γ : Gam} {X : Cx} {W : WX}
/-- f(k = v, ..) on what stands, or on nothing but its arguments -/
theorem sE_callKOf {k kx : Nat} {f : Addr} {fd : FuncData} {ps ks : List Str} {ix : List Nat} {x : Str} {p pos : Pos} {kws : List Keyword} {n nk : Nat} {m m' : MF} {ma : M (List T)} (hm' : ∀ F ρ st H ts vs Q E, SR Γ F ρ H st → RVs Γ F ρ H ts vs → ts.length = n → Ran Γ F (RT Γ F) (m' ts st) ρ st H E Q → spOf Γ n m vs H Q E)
    (G : FnOk X.prog X.w X.K X.mg X.base (L2.CX X.prog X.w) k f fd ps (spOf Γ n m)) (tk : Takes X W) (hr : Room kx X.A) (hkx : k ≤ kx) (hm : X.mg x = some (.ref f)) (hk : PySem.W.keepIn X.K (.ref f) = true)
    (hb : KwTo X.K fd ps ks ix) (hkw : SKw Γ X W kws ma) (hnk : ks.length = nk := by rfl) (hg : Gl X x := by rfl) (hall : (backToKw pos (keywordEach kws X.env)).all (·.1.isSome) = true := by rfl) (hks : (backToKw pos (keywordEach kws X.env)).filterMap (·.1) = ks := by rfl) (hdb : (x == ("__debug__" : Str)) = false := by decide)
    (hpl : ((backTo pos (starEach [] X.env)).any (·.1) || (backToKw pos (keywordEach kws X.env)).any (·.1.isNone)) = false := by rfl) :
    SE Γ X W (.Call (.Name x p) [] kws pos) (mCallK nk n ix m' ma) := by
  refine ⟨fun pins s σ H Q I h => ?_⟩
  refine wpAny_Call_Name_kw (ld_glob I hg hm ?_ hdb)
  refine PySem.W.callWith_KW0 (h₀ := X.base) I.ok.mod.kin hk hall ?_ hpl
  obtain ⟨σp, F, ρ, st, sr, re, h⟩ := h
  have hA : tAv Γ ma W σ H (fun zs H2 => zs.length = ks.length ∧ spOf Γ n m (permT ix zs) H2 Q (WE W σ)) := ⟨σp, F, ρ, st, sr, re, Ran.bind sr h fun ts st1 vs H1 ρ1 _ s1 p1 r1 h1 => by
    split at h1
    · rename_i e1 e2
      exact ⟨by rw [hnk, ← r1.length]; exact Nat.eq_of_beq_eq_true e1, hm' _ _ _ _ _ _ _ _ s1 (permT_rvs r1 ix) (Nat.eq_of_beq_eq_true e2) h1⟩
    · exact h1.elim⟩
  refine thn (hkw.run pos pins s σ H _ I hA) fun ws s2 ⟨zs, H2, I2, rz, l2, q2⟩ => ⟨I2.kIn, ?_⟩
  rw [hks]
  refine wpAny_call (codeAny_mono (G.run X.A X.stack s2 H2 ⟨[], ks.zip ws⟩ (permT ix ws) (permT ix zs) Q (WE W σ) (hr.mono hkx) I2.env0 (hb s2 ws I2.kIn (rz.length.symm.trans l2)) (permT_vals rz ix) q2) fun r s' hq => ?_)
  cases r with
  | error e => exact passAt tk σ pins H2 s2 e s' I2 hq
  | ok fl =>
    cases fl with
    | ret u => exact I2.after hq
    | next => exact False.elim hq
    | brk => exact False.elim hq
    | cont => exact False.elim hq
end
theorem FunD.kwTo {K : PySem.W.Frag} {x qual : Str} {params : Arguments} {body : List Stmt} {scope : Scope} {f : Addr} {fd : FuncData} {ps ks : List Str} {ix : List Nat} (F : FunD K x qual params body scope [] [] f fd)
    (h : ∀ (kV doc pm : Value) (an : Option Addr) (cdv ct : Value) (ws : List Value), ws.length = ks.length → bindArgs (PySem.W.fnOf x qual params body scope .none kV doc pm an cdv ct) ⟨[], ks.zip ws⟩ = pure (ps.zip (permT ix ws))) : KwTo K fd ps ks ix := by
  obtain ⟨oc, od, dV, kV, doc, pm, an, cdv, ct, osl, rfl, lk, hcd, hD, hK⟩ := F.ex
  rcases hD with ⟨_, rfl⟩ | ⟨e, _⟩
  · exact fun s ws _ hl => .of_eq (h kV doc pm an cdv ct ws hl)
  · exact absurd rfl e
/-- a def whose code object is looked at -/
theorem fn_okC {P : Program} {w : World} {K : PySem.W.Frag} {mg : Str → Option Value} {base : Heap} {Γ : Gam} {k n : Nat} {at_ : He.Defn} {fd : FuncData} {x qual : Str} {params : Arguments} {body : List Stmt} {scope : Scope} {N ps : List Str} {b : MS} (F : FunD K x qual params body scope [] [] (He.fAd K at_) fd) (S : FnScope N ps scope) (hn : ps.length = n)
    (hb : ∀ (A : Around) (outer : List Env) (s : Shared) (H : Hp) (E : XK), Room k (A.deeper (envOfC qual scope s.heap.objs.size (He.fAd K at_) (.ref (He.cT K at_).1))) → SSs Γ (cxOf (L2.CX P w) P w K mg base N qual scope (He.fAd K at_) (.ref (He.cT K at_).1) A outer s H E) (fun cls d _ H => E cls d H) body b) :
    FnOk P w K mg base (L2.CX P w) (k + 1) (He.fAd K at_) fd ps (spOf Γ n (mDef N.length b)) := by
  obtain ⟨oc, od, dV, kV, doc, pm, an, cdv, ct, osl, rfl, lk, hcd, _, _⟩ := F.ex
  obtain ⟨c, e⟩ := He.codeIn_ref hcd
  subst e
  have e2 : (He.cT K at_).1 = c := He.codeOf_eq lk rfl
  subst e2
  refine fn_of lk hcd S (fun vs H Q E ⟨ts, F, ρ, st, s, r, l, h⟩ => by rw [← r.length, l, hn]) fun A outer s H vs Q E hr ⟨ts, F, ρ, st, sr, r, l, h⟩ => ⟨_, hb A outer s H E hr, mDef_run sr r h⟩
end WR
namespace WR
open PySem PySem.Spec PyProof.Rows L2
/-! ### sorted of data, any kind -/
def tup1 : PyData → Bool
  | .tuple (_ :: _) => true
  | _ => false
def sortDs (ds : List PyData) : Bool := ds.all fun d => tup1 d && decide (d.depth < 60) && ds.all fun e => PySem.W.alike d e
def sortX : MF := fun ts st => match one1 ts with
  | some t => match lstT st t with
    | some xs => match pds st 100 xs with
      | some ds => match sortDs ds && Nat.ble xs.length 16777216 with
        | true => .ok (.lst (((xs.zip ds).mergeSort (PySem.W.dataLe false Prod.snd)).map Prod.fst)) st
        | false => .no
      | none => .no
    | none => .no
  | none => .no
def rSortX (K : PySem.W.Frag) : List V → Hp → VK → Prop := fun vs H Q => ∃ (a : Addr) (bs : List (V × PyData)), vs = [.ref a] ∧ SqL K H a (bs.map Prod.fst) ∧ (∀ b ∈ bs, Dp K H b.1 b.2) ∧ sortDs (bs.map Prod.snd) = true ∧ bs.length ≤ sizeLine ∧
  ∀ p, H p = none → Q (.ref p) (upd H p (.lst ((bs.mergeSort (PySem.W.dataLe false Prod.snd)).map Prod.fst)))
theorem cr_sortX {X : Cx} (hu : X.A.units + 128 < cLine) : CallR X (.builtin "sorted") (rSortX X.K) := by
  intro pins s σ H vs us Q I r h
  obtain ⟨a, bs, rfl, hs, hd, ok, hl, q⟩ := h
  obtain ⟨its, rv, isl, hz⟩ := I.list hs
  obtain ⟨u, rfl, ru⟩ := vals1 r
  cases (show u = Value.ref a from ru)
  have al := List.all_eq_true.mp ok
  have e1 : ∀ (bs : List (V × PyData)) (its : List Value), Vals (bs.map Prod.fst) its → PySem.W.EachIs (fun (v : Value) (b : V × PyData) => RelV b.1 v) its bs := fun bs => by
    induction bs with
    | nil => intro its r; cases r; exact .nil
    | cons b bs ih => intro its r; cases r with | cons h t => exact .cons h (ih _ t)
  have e2 : ∀ (bs : List (V × PyData)) (its : List Value), (∀ b ∈ bs, Dp X.K H b.1 b.2) → Vals (bs.map Prod.fst) its → PySem.W.EachIs (fun (v : Value) (b : V × PyData) => ∃ as, Reads s.heap v b.2 as) its bs := fun bs => by
    induction bs with
    | nil => intro its _ r; cases r; exact .nil
    | cons b bs ih =>
      intro its hd r
      cases r with
      | cons h t => exact .cons (Dp.reads I b.2 b.1 _ (hd b List.mem_cons_self) h) (ih _ (fun c hc => hd c (List.mem_cons_of_mem _ hc)) t)
  have e3 : ∀ (bs : List (V × PyData)) (out : List Value), PySem.W.EachIs (fun (v : Value) (b : V × PyData) => RelV b.1 v) out bs → Vals (bs.map Prod.fst) out := fun bs => by
    induction bs with
    | nil => intro out r; cases r; exact .nil
    | cons b bs ih => intro out r; cases r with | cons h t => exact .cons h (ih _ t)
  refine PySem.W.sorted_data (enc := Prod.snd) isl.isList (e1 bs its rv) (e2 bs its hd rv) (fun d hd d' hd' => ?_) (.inl fun d hd => ?_) hl (fun b hb => ?_) fun out lo eo => ?_
  · have := al d hd
    simp only [Bool.and_eq_true] at this
    exact List.all_eq_true.mp this.2 d' hd'
  · have := al d hd
    simp only [Bool.and_eq_true] at this
    have t1 := this.1.1
    unfold tup1 at t1
    split at t1
    · exact ⟨_, _, rfl⟩
    · cases t1
  · have := al b.2 (List.mem_map.mpr ⟨b, hb, rfl⟩)
    simp only [Bool.and_eq_true, decide_eq_true_eq] at this
    have := this.1.2
    omega
  · have vo := e3 _ out eo
    obtain ⟨n, hn⟩ := PyProof.Rows.sortedAll_at s.heap its (List.toArray out)
    refine ⟨.ref (s.heap.objs.size + 1), upd H (s.heap.objs.size + 1) (.lst ((bs.mergeSort (PySem.W.dataLe false Prod.snd)).map Prod.fst)), I.laid (t' := s.toks) (fun b o e => PyProof.Rows.sortedAll_old e) (Nat.le_succ _) ⟨?_, out, n, vo, hn⟩, rfl, q _ (I.hok.fresh (Nat.le_succ _))⟩
    rw [List.length_map, List.length_mergeSort]
    exact hl
theorem zip3 {Γ : Gam} {F ρ : List Addr} {H : Hp} : ∀ {xs : List T} {vs : List V} {ds : List PyData}, RVs Γ F ρ H xs vs → DpAll Γ.K H vs ds → ∃ bs : List ((T × V) × PyData), xs.zip ds = bs.map (fun b => (b.1.1, b.2)) ∧ vs = bs.map (fun b => b.1.2) ∧ ds = bs.map Prod.snd ∧ ∀ b ∈ bs, RV Γ F ρ H b.1.1 b.1.2 ∧ Dp Γ.K H b.1.2 b.2
  | [], vs, ds, r, d => by
    rw [show vs = [] from r] at d
    cases d
    exact ⟨[], rfl, r, rfl, fun b hb => nomatch hb⟩
  | x :: xs, _, ds, r, d => by
    obtain ⟨v, vr, rfl, r1, r2⟩ := r
    cases d with
    | @cons _ _ d0 ds0 d1 d2 =>
      obtain ⟨bs, a1, a2, a3, a4⟩ := zip3 r2 d2
      refine ⟨((x, v), d0) :: bs, by simp [a1], by simp [a2], by simp [a3], fun b hb => ?_⟩
      rcases List.mem_cons.mp hb with z | z
      · subst z; exact ⟨r1, d1⟩
      · exact a4 b z
theorem ok_sortX {Γ : Gam} : CallOk Γ (rSortX Γ.K) sortX := fun F ρ st H xs ts Q E s r h => by
  unfold sortX at h
  split at h
  · rename_i t e
    obtain ⟨v, rfl, rt⟩ := one1_ok e r
    split at h
    · rename_i ys e2
      split at h
      · rename_i ds e3
        split at h
        · rename_i e4
          obtain ⟨e5, e6⟩ := Bool.and_eq_true_iff.mp e4
          obtain ⟨p, vs, rfl, h1, h2⟩ := lstT_ok s.rs e2 rt
          obtain ⟨bs, a1, a2, a3, a4⟩ := zip3 h2 (pds_dp s.rs 100 ys vs ds e3 h2)
          refine ⟨p, bs.map fun b => (b.1.2, b.2), rfl, ?_, fun b hb => ?_, ?_, ?_, fun q hq => ?_⟩
          · rw [List.map_map]; rw [a2] at h1; exact .of h1
          · obtain ⟨c, hc, z⟩ := List.mem_map.mp hb
            subst z; exact (a4 c hc).2
          · rw [List.map_map]; rw [a3] at e5; exact e5
          · rw [List.length_map]
            have : ys.length = bs.length := by rw [h2.length, a2, List.length_map]
            rw [← this, sizeLine_eq]; exact Nat.le_of_ble_eq_true e6
          · have m1 : ((bs.map fun b => (b.1.2, b.2)).mergeSort (PySem.W.dataLe false Prod.snd)).map Prod.fst = (bs.mergeSort (PySem.W.dataLe false Prod.snd)).map fun b => b.1.2 := by
              rw [← List.map_mergeSort (r := PySem.W.dataLe false Prod.snd) (f := fun b : (T × V) × PyData => (b.1.2, b.2)) (fun a _ b _ => rfl), List.map_map]; rfl
            have m2 : ((ys.zip ds).mergeSort (PySem.W.dataLe false Prod.snd)).map Prod.fst = (bs.mergeSort (PySem.W.dataLe false Prod.snd)).map fun b => b.1.1 := by
              rw [a1, ← List.map_mergeSort (r := PySem.W.dataLe false Prod.snd) (f := fun b : (T × V) × PyData => (b.1.1, b.2)) (fun a _ b _ => rfl), List.map_map]; rfl
            rw [m1]
            rw [m2] at h
            have each : ∀ cs : List ((T × V) × PyData), (∀ c ∈ cs, RV Γ F ρ H c.1.1 c.1.2) → RVs Γ F ρ H (cs.map fun b => b.1.1) (cs.map fun b => b.1.2) := fun cs => by
              induction cs with
              | nil => intro _; exact rfl
              | cons c cs ih => intro hc; exact ⟨_, _, rfl, hc c List.mem_cons_self, ih fun d hd => hc d (List.mem_cons_of_mem _ hd)⟩
            exact Ran.ends h (.laid s.rs hq) (RV.lstNew s hq (each _ fun c hc => (a4 c ((List.mergeSort_perm _ _).mem_iff.mp hc)).1))
        · exact h.elim
      · exact h.elim
    · exact h.elim
  · exact h.elim
/-! ### a Hook that looks at the statics too -/
def asY (g : Addr → Option Obj) (n : Nat) : List Addr := cStatics :: He.asD g n
def obY (n : Nat) (fa : List He.Fa) (fn : List He.DefD) (tf : List He.Defn) (ex : PySem.W.Frag → Bool) (g : Addr → Option Obj) : He.AlX := (He.obsT fa fn [] (He.frT g (asY g n)), ex (He.frT g (asY g n)) && He.tabsB g tf (He.frT g (asY g n)))
theorem saysY {n : Nat} {fa : List He.Fa} {fn : List He.DefD} {tf : List He.Defn} {ex : PySem.W.Frag → Bool} {w : World} {h : Heap} (e : obY n fa fn tf ex h.get? = He.valX fn [] w) : He.SaysX fa fn [] tf ex w h (He.frT h.get? (asY h.get? n)) := by
  have first : He.obsT fa fn [] (He.frT h.get? (asY h.get? n)) = He.valT fn [] w := congrArg (fun z : He.AlX => z.1) e
  have second : (ex (He.frT h.get? (asY h.get? n)) && He.tabsB h.get? tf (He.frT h.get? (asY h.get? n))) = true := congrArg (fun z : He.AlX => z.2) e
  obtain ⟨more, tabs⟩ := Bool.and_eq_true_iff.mp second
  have one : ∀ p ∈ tf, PySem.W.codeHdIn (He.frT h.get? (asY h.get? n)) (He.cT (He.frT h.get? (asY h.get? n)) p).1 (He.cT (He.frT h.get? (asY h.get? n)) p).2 = true ∧ ∃ o, h.get? (He.cT (He.frT h.get? (asY h.get? n)) p).2 = some o ∧ He.emptyTab o = true := fun p hp => by
    obtain ⟨a, b⟩ := Bool.and_eq_true_iff.mp (List.all_eq_true.mp tabs p hp)
    refine ⟨a, ?_⟩
    split at b
    · rename_i o q; exact ⟨o, q, b⟩
    · cases b
  exact { t := first, more := more, hd := fun p hp => (one p hp).1, out := fun p hp => (one p hp).2.elim fun o z => He.frT_none z.1 z.2, empty := fun p hp => (one p hp).2.elim fun o z => by rw [z.1, He.emptyTab_eq z.2] }
def hookY (n : Nat) (fa : List He.Fa) (fn : List He.DefD) (tf : List He.Defn) (ex : PySem.W.Frag → Bool) : PySem.W.Hook where
  α := He.AlX
  obs := fun s => obY n fa fn tf ex s.heap.get?
  val := fun w => He.valX fn [] w
  says := fun w h => ∃ K : PySem.W.Frag, K.In h ∧ He.SaysX fa fn [] tf ex w h K
  of := fun _ _ e => ⟨_, He.frT_in, saysY e⟩
  keeps := fun _ _ _ ⟨K, inK, c⟩ more => ⟨K, PySem.W.Frag.In.keeps inK more, { t := c.t, more := c.more, hd := c.hd, out := c.out, empty := fun p hp => more _ _ (c.empty p hp) }⟩
theorem obY_eq {n : Nat} {fa : List He.Fa} {fn : List He.DefD} {tf : List He.Defn} {ex : PySem.W.Frag → Bool} {g : Addr → Option Obj} {s : Shared} (h : ∀ a, g a = s.heap.get? a) : obY n fa fn tf ex g = (hookY n fa fn tf ex).obs s := by
  have e : g = s.heap.get? := funext h
  rw [e]; rfl
end WR
namespace WR
open PySem PySem.Spec PyProof.Rows L2
/-! ### a call whose own objects go when it ends -/
mutual
/-- refs from k on are seen as they stand, the others stay -/
def inlN (k : Nat) (st : List O) : Nat → T → Option T
  | 0, _ => none
  | n + 1, t => match t with
    | .tup xs => match inlNs k st n xs with
      | some ys => some (.tup ys)
      | none => none
    | .lst xs => match inlNs k st n xs with
      | some ys => some (.lst ys)
      | none => none
    | .dct ks xs => match inlNs k st n xs with
      | some ys => some (.dct ks ys)
      | none => none
    | .ins c fs xs => match inlNs k st n xs with
      | some ys => some (.ins c fs ys)
      | none => none
    | .exc c fs xs => match inlNs k st n xs with
      | some ys => some (.exc c fs ys)
      | none => none
    | .ref i => match Nat.blt i k with
      | true => some (.ref i)
      | false => match st[i]? with
        | some (.lst xs) => match inlNs k st n xs with
          | some ys => some (.lst ys)
          | none => none
        | some (.dct ks xs) => match inlNs k st n xs with
          | some ys => some (.dct ks ys)
          | none => none
        | some (.ins c fs xs) => match inlNs k st n xs with
          | some ys => some (.ins c fs ys)
          | none => none
        | _ => none
    | t => some t
def inlNs (k : Nat) (st : List O) : Nat → List T → Option (List T)
  | 0, _ => none
  | n + 1, ts => match ts with
    | [] => some []
    | t :: r => match inlN k st n t with
      | some y => match inlNs k st n r with
        | some ys => some (y :: ys)
        | none => none
      | none => none
end
def inlO (k : Nat) (st : List O) (n : Nat) : O → Option O
  | .lst xs => match inlNs k st n xs with
    | some ys => some (.lst ys)
    | none => none
  | .dct ks xs => match inlNs k st n xs with
    | some ys => some (.dct ks ys)
    | none => none
  | .ins c fs xs => match inlNs k st n xs with
    | some ys => some (.ins c fs ys)
    | none => none
  | .dcq ks xs => match inlNs k st n xs with
    | some ys => some (.dcq ks ys)
    | none => none
  | o => some o
def inlOs (k : Nat) (st : List O) (n : Nat) : List O → Option (List O)
  | [] => some []
  | o :: os => match inlO k st n o, inlOs k st n os with
    | some p, some ps => some (p :: ps)
    | _, _ => none
section
variable {Γ : Gam} {F ρ ρ' : List Addr} {H : Hp} {st : List O} {k : Nat}
/-- ρ' is ρ and more -/
structure Cut (F ρ ρ' : List Addr) (k : Nat) : Prop where
  len : ρ.length = k
  pre : ∀ i : Nat, i < k → ρ'[i]? = ρ[i]?
  sub : ∀ a ∈ ρ, a ∈ ρ'
  more : ∀ (i : Nat) (a : Addr), ρ'[i]? = some a → k ≤ i → a ∉ ρ ∧ a ∉ F
mutual
theorem inlN_ok (c : Cut F ρ ρ' k) (s : RS Γ F ρ' H st) : ∀ (n : Nat) (t t' : T) (v : V), inlN k st n t = some t' → RV Γ F ρ' H t v → RV Γ F ρ H t' v
  | 0, _, _, _, e, _ => by simp [inlN] at e
  | n + 1, t, t', v, e, r => by
    cases t with
    | non => cases (show some _ = some t' from e); exact r
    | bl b => cases (show some _ = some t' from e); exact r
    | int i => cases (show some _ = some t' from e); exact r
    | str x => cases (show some _ = some t' from e); exact r
    | fn x => cases (show some _ = some t' from e); exact r
    | ty x => cases (show some _ = some t' from e); exact r
    | cls x => cases (show some _ = some t' from e); exact r
    | scr x =>
      cases (show some _ = some t' from e)
      obtain ⟨a, rfl, h⟩ := r
      exact ⟨a, rfl, h.imp (fun ⟨h1, h2, h3⟩ => ⟨h1, fun z => h2 (c.sub a z), h3⟩) id⟩
    | tup xs =>
      obtain ⟨a, vs, rfl, h1, h2⟩ := r
      simp only [inlN] at e
      cases q : inlNs k st n xs with
      | none => rw [q] at e; cases e
      | some ys => rw [q] at e; cases e; exact ⟨a, vs, rfl, h1, inlNs_ok c s n xs ys vs q h2⟩
    | lst xs =>
      obtain ⟨a, vs, rfl, n1, n2, h1, h2⟩ := r
      simp only [inlN] at e
      cases q : inlNs k st n xs with
      | none => rw [q] at e; cases e
      | some ys => rw [q] at e; cases e; exact ⟨a, vs, rfl, n1, fun z => n2 (c.sub a z), h1, inlNs_ok c s n xs ys vs q h2⟩
    | dct ks xs =>
      obtain ⟨a, kvs, rfl, n1, n2, h1, h3, h2⟩ := r
      simp only [inlN] at e
      cases q : inlNs k st n xs with
      | none => rw [q] at e; cases e
      | some ys => rw [q] at e; cases e; exact ⟨a, kvs, rfl, n1, fun z => n2 (c.sub a z), h1, h3, inlNs_ok c s n xs ys _ q h2⟩
    | ins cc fs xs =>
      obtain ⟨a, dx, fvs, rfl, n1, n2, h1, h3, h2⟩ := r
      simp only [inlN] at e
      cases q : inlNs k st n xs with
      | none => rw [q] at e; cases e
      | some ys => rw [q] at e; cases e; exact ⟨a, dx, fvs, rfl, n1, fun z => n2 (c.sub a z), h1, h3, inlNs_ok c s n xs ys _ q h2⟩
    | exc cc fs xs =>
      obtain ⟨a, d, rfl, n1, n2, h1, h2⟩ := r
      simp only [inlN] at e
      cases q : inlNs k st n xs with
      | none => rw [q] at e; cases e
      | some ys =>
        rw [q] at e; cases e
        refine ⟨a, d, rfl, n1, fun z => n2 (c.sub a z), h1, ?_⟩
        rcases h2 with ⟨z1, z2, z3⟩ | ⟨dd, fvs, z1, m1, m2, z2, z3, z4⟩
        · exact .inl ⟨z1, z2, inlNs_ok c s n xs ys _ q z3⟩
        · exact .inr ⟨dd, fvs, z1, m1, fun z => m2 (c.sub dd z), z2, z3, inlNs_ok c s n xs ys _ q z4⟩
    | lam x =>
      cases (show some _ = some t' from e)
      obtain ⟨a, b, rfl, n1, n2, h1, n3, n4, h2⟩ := r
      exact ⟨a, b, rfl, n1, fun z => n2 (c.sub a z), h1, n3, fun z => n4 (c.sub b z), h2⟩
    | ref i =>
      obtain ⟨a, rfl, h1⟩ := r
      simp only [inlN] at e
      cases q0 : Nat.blt i k with
      | true =>
        rw [q0] at e; cases e
        exact ⟨a, rfl, by rw [← c.pre i (Nat.le_of_ble_eq_true q0)]; exact h1⟩
      | false =>
        rw [q0] at e
        have hk : k ≤ i := by
          rcases Nat.lt_or_ge i k with z | z
          · have : Nat.blt i k = true := Nat.ble_eq_true_of_le z
            rw [q0] at this; cases this
          · exact z
        obtain ⟨na, nF⟩ := c.more i a h1 hk
        simp only at e
        cases q1 : st[i]? with
        | none => rw [q1] at e; cases e
        | some o =>
          rw [q1] at e
          have ro := s.at_ i o a q1 h1
          cases o with
          | lst xs =>
            obtain ⟨vs, h3, h2⟩ := RO.list ro
            simp only at e
            cases q : inlNs k st n xs with
            | none => rw [q] at e; cases e
            | some ys => rw [q] at e; cases e; exact ⟨a, vs, rfl, nF, na, h3, inlNs_ok c s n xs ys vs q h2⟩
          | dct ks xs =>
            obtain ⟨kvs, h3, h4, h2⟩ := RO.dict ro
            simp only at e
            cases q : inlNs k st n xs with
            | none => rw [q] at e; cases e
            | some ys => rw [q] at e; cases e; exact ⟨a, kvs, rfl, nF, na, .inl h3, h4, inlNs_ok c s n xs ys _ q h2⟩
          | ins cc fs xs =>
            obtain ⟨dx, fvs, h3, h4, h2⟩ := RO.inst' ro
            simp only at e
            cases q : inlNs k st n xs with
            | none => rw [q] at e; cases e
            | some ys => rw [q] at e; cases e; exact ⟨a, dx, fvs, rfl, nF, na, h3, h4, inlNs_ok c s n xs ys _ q h2⟩
          | dcq ks xs => cases e
          | hid => cases e
          | tbl m => cases e
theorem inlNs_ok (c : Cut F ρ ρ' k) (s : RS Γ F ρ' H st) : ∀ (n : Nat) (ts ts' : List T) (vs : List V), inlNs k st n ts = some ts' → RVs Γ F ρ' H ts vs → RVs Γ F ρ H ts' vs
  | 0, _, _, _, e, _ => by simp [inlNs] at e
  | n + 1, ts, ts', vs, e, r => by
    cases ts with
    | nil => simp only [inlNs] at e; cases e; exact r
    | cons t ts =>
      obtain ⟨v, vr, rfl, r1, r2⟩ := r
      simp only [inlNs] at e
      cases q : inlN k st n t with
      | none => rw [q] at e; cases e
      | some y =>
        rw [q] at e
        simp only at e
        cases q2 : inlNs k st n ts with
        | none => rw [q2] at e; cases e
        | some ys => rw [q2] at e; cases e; exact ⟨v, vr, rfl, inlN_ok c s n t y v q r1, inlNs_ok c s n ts ys vr q2 r2⟩
end
theorem inlO_ok (c : Cut F ρ ρ' k) (s : RS Γ F ρ' H st) {n : Nat} {o o' : O} {a : Addr} (e : inlO k st n o = some o') (r : RO Γ F ρ' H o a) : RO Γ F ρ H o' a := by
  cases o with
  | lst xs =>
    obtain ⟨vs, h1, h2⟩ := r
    simp only [inlO] at e
    cases q : inlNs k st n xs with
    | none => rw [q] at e; cases e
    | some ys => rw [q] at e; cases e; exact ⟨vs, h1, inlNs_ok c s n xs ys vs q h2⟩
  | dct ks xs =>
    obtain ⟨kvs, h1, h3, h2⟩ := r
    simp only [inlO] at e
    cases q : inlNs k st n xs with
    | none => rw [q] at e; cases e
    | some ys => rw [q] at e; cases e; exact ⟨kvs, h1, h3, inlNs_ok c s n xs ys _ q h2⟩
  | ins cc fs xs =>
    obtain ⟨dx, fvs, h1, h3, h2⟩ := r
    simp only [inlO] at e
    cases q : inlNs k st n xs with
    | none => rw [q] at e; cases e
    | some ys => rw [q] at e; cases e; exact ⟨dx, fvs, h1, h3, inlNs_ok c s n xs ys _ q h2⟩
  | dcq ks xs =>
    obtain ⟨ms, vs, h1, h3, h4, h5, h6, h7, h2⟩ := r
    simp only [inlO] at e
    cases q : inlNs k st n xs with
    | none => rw [q] at e; cases e
    | some ys => rw [q] at e; cases e; exact ⟨ms, vs, h1, h3, h4, h5, h6, h7, inlNs_ok c s n xs ys _ q h2⟩
  | hid => cases e; exact r
  | tbl m =>
    cases e
    obtain ⟨e0, ps, e1, e2, e3⟩ := r
    refine ⟨e0, ps, e1, e2, fun pos cv hc => ?_⟩
    obtain ⟨x, c1, c2, c3, c4⟩ := e3 pos cv hc
    exact ⟨x, c1, c2, fun z => c3 (c.sub x z), c4⟩
theorem inlOs_ok {n : Nat} : ∀ {os os' : List O}, inlOs k st n os = some os' → os'.length = os.length ∧ ∀ (i : Nat) (o' : O), os'[i]? = some o' → ∃ o, os[i]? = some o ∧ inlO k st n o = some o'
  | [], os', e => by cases e; exact ⟨rfl, fun i o' e => by simp at e⟩
  | o :: os, os', e => by
    simp only [inlOs] at e
    split at e
    · rename_i p ps e1 e2
      cases e
      obtain ⟨h1, h2⟩ := inlOs_ok e2
      refine ⟨by simp [h1], fun i o' e => ?_⟩
      cases i with
      | zero => simp at e; subst e; exact ⟨o, rfl, e1⟩
      | succ i => simpa using h2 i o' (by simpa using e)
    · cases e
end
def dropEnd (k : Nat) (r : Rs T) : Rs T := match r with
  | .ok t st => match inlN k st 200 t, inlOs k st 200 (st.take k) with
    | some t', some os => .ok t' os
    | _, _ => .no
  | .exc e st => match inlNs k st 200 e.vs, inlOs k st 200 (st.take k) with
    | some vs, some os => .exc ⟨e.c, e.fs, vs⟩ os
    | _, _ => .no
  | .no => .no
def drop (m : MF) : MF := fun ts st => dropEnd st.length (m ts st)
section
variable {Γ : Gam} {F ρ : List Addr} {H : Hp} {st : List O} {n : Nat} {m : MF}
theorem cut_of (s : SR Γ F ρ H st) {ρ' : List Addr} {st' : List O} {H' : Hp} (p : Post Γ F ρ H ρ' st' H') : Cut F ρ ρ' st.length := by
  obtain ⟨new, e, hn⟩ := p.grow
  have s2 := s.post p
  refine ⟨s.rs.len, fun i hi => ?_, fun a ha => by rw [e]; exact List.mem_append_left _ ha, fun i a h hk => ⟨fun z => ?_, fun z => s2.dis a z (List.mem_of_getElem? h)⟩⟩
  · rw [e, List.getElem?_append_left (by rw [s.rs.len]; exact hi)]
  · obtain ⟨j, hj, ej⟩ := List.mem_iff_getElem.mp z
    have h2 : ρ'[j]? = some a := by rw [e, List.getElem?_append_left hj, List.getElem?_eq_getElem hj, ej]
    obtain ⟨i1, z1⟩ := List.getElem?_eq_some_iff.mp h
    obtain ⟨i2, z2⟩ := List.getElem?_eq_some_iff.mp h2
    have := (List.getElem_inj p.rs.nd).mp (z1.trans z2.symm)
    rw [s.rs.len] at hj
    omega
theorem post_cut (s : SR Γ F ρ H st) {ρ' : List Addr} {st' os : List O} {H' : Hp} (p : Post Γ F ρ H ρ' st' H') (e : inlOs st.length st' 200 (st'.take st.length) = some os) : Post Γ F ρ H ρ os H' := by
  have c := cut_of s p
  obtain ⟨h1, h2⟩ := inlOs_ok e
  have le : st.length ≤ st'.length := by
    obtain ⟨new, e, _⟩ := p.grow
    have := p.rs.len
    rw [e, List.length_append, s.rs.len] at this
    omega
  refine ⟨.refl, p.keep, ⟨by rw [h1, List.length_take, s.rs.len]; omega, s.rs.nd, fun i o a e1 e2 => ?_⟩⟩
  obtain ⟨o0, e3, e4⟩ := h2 i o e1
  have hi : i < st.length := by rw [← s.rs.len]; exact (List.getElem?_eq_some_iff.mp e2).1
  rw [List.getElem?_take_of_lt hi] at e3
  exact inlO_ok c p.rs e4 (p.rs.at_ i o0 a e3 (by rw [c.pre i hi]; exact e2))
theorem ofDrop : ∀ (F ρ : List Addr) (st : List O) (H : Hp) (ts : List T) (vs : List V) (Q : VK) (E : XK), SR Γ F ρ H st → RVs Γ F ρ H ts vs → ts.length = n → Ran Γ F (RT Γ F) (drop m ts st) ρ st H E Q → spOf Γ n m vs H Q E := fun F ρ st H ts vs Q E s r l h => by
  refine ⟨ts, F, ρ, st, s, r, l, ?_⟩
  unfold drop dropEnd at h
  cases q : m ts st with
  | no => rw [q] at h; exact h
  | ok t st2 =>
    rw [q] at h
    simp only at h
    split at h
    · rename_i t' os e1 e2
      intro v H2 ρ2 p rv
      exact h v H2 ρ (post_cut s p e2) (inlN_ok (cut_of s p) p.rs 200 t t' v e1 rv)
    · exact h.elim
  | exc e st2 =>
    rw [q] at h
    simp only at h
    split at h
    · rename_i vs' os e1 e2
      intro cls d H2 ρ2 p rx
      have c := cut_of s p
      refine h cls d H2 ρ (post_cut s p e2) ?_
      obtain ⟨z0, z⟩ := rx
      refine ⟨z0, ?_⟩
      rcases z with ⟨z1, z2, z3⟩ | ⟨dd, fvs, z1, m1, m2, z2, z3, z4⟩
      · exact .inl ⟨z1, z2, inlNs_ok c p.rs 200 _ _ _ e1 z3⟩
      · exact .inr ⟨dd, fvs, z1, m1, fun z => m2 (c.sub dd z), z2, z3, inlNs_ok c p.rs 200 _ _ _ e1 z4⟩
    · exact h.elim
variable {X : Cx} {W : WX} {k : Nat} {f : Addr} {ps : List Str} {x : Str} {p pos : Pos} {e : Expr} {es : List Expr} {ma : M (List T)}
theorem sE_kallD {kx : Nat} (G : Kept X.prog X.w X.K X.mg X.base Γ k f ps n m) (tk : Takes X W) (hr : Room kx X.A) (hk : k ≤ kx) (hm : X.mg x = some (.ref f)) (ha : SA Γ X W (e :: es) ma) (hg : Gl X x := by rfl) (hdb : (x == ("__debug__" : Str)) = false := by decide)
    (he : starEach (e :: es) X.env = (false, eval e X.env) :: starEach es X.env := by rfl) (hpl : (backTo pos (starEach es X.env)).any (·.1) = false := by rfl) : SE Γ X W (.Call (.Name x p) (e :: es) [] pos) (mCall n (drop m) [] ma) := by
  obtain ⟨⟨fd, G, b⟩, kp⟩ := G
  exact sE_callOf ofDrop G tk (hr.mono hk) hm kp b .nil dts_nil ha hg hdb he hpl
end
/-! ### a list or a tuple is walked -/
def mIA (a : ME) : M Src := fun σ st => match a σ st with
  | .ok (.tup _) _ => mIT a σ st
  | _ => mIL a σ st
theorem sI_any {Γ : Gam} {X : Cx} {W : WX} {tg e : Expr} {a : ME} (hK : X.K = Γ.K) (ha : SE Γ X W e a) : SI Γ X W tg e (mIA a) :=
  ⟨fun pins s σ H R I ⟨σp, F, ρ, st, sr, re, h⟩ => by
    unfold mIA at h
    split at h
    · exact (sI_tup (tg := tg) hK ha).run pins s σ H R I ⟨σp, F, ρ, st, sr, re, h⟩
    · exact (sI_list (tg := tg) hK ha).run pins s σ H R I ⟨σp, F, ρ, st, sr, re, h⟩⟩
end WR
namespace WR
open PySem PySem.Spec PyProof.Rows L2 LamX
/-! ### lambdas as values -/
theorem lam_new2 {X : Cx} {pins : List (Addr × Obj)} {σ : L2.St} {H : Hp} {s : Shared} {c P : Addr} {ps : Array Value} {params : Arguments} {body : Expr} {scope : Scope} {pos : Pos} {E : Value → Shared → Prop} {Q : Value → Shared → Prop} (I : Inv X pins σ H s) (tb : TabB X.base X.mg c P) (code : X.env.code = .ref c) (tr : TabR H P (X.env.qual ++ "<lambda>") ps) (noDef : defaultsOf params X.env = ([], [])) (fr : ∀ y ∈ scope.names, y.2 = .free → ∃ c, X.env.cells.lookup y.1 = some c)
    (h : ∀ (f c' : Addr) (pm ctv : Value) (H1 : Hp) (s' : Shared), Inv X pins σ H1 s' → ((H1 = H ∧ codeAmong pos ps.toList = some (.ref c')) ∨ ∃ l k : Value, H c' = none ∧ P ≠ c' ∧ H1 = upd (upd H P (.tbl (ps ++ #[l, k, .ref c']))) c' (CodeO c' (X.env.qual ++ "<lambda>")) ∧ TriplesOk (ps ++ #[l, k, .ref c']).toList ∧ ∀ (p : Pos) (cv : Value), codeAmong p (ps ++ #[l, k, .ref c']).toList = some cv → codeAmong p ps.toList = some cv ∨ cv = .ref c') →
      s'.heap.get? f = some (PySem.W.kla_obj "<lambda>" (X.env.qual ++ "<lambda>") params body scope (cloFrom X.env.cells scope.names []) pm c' ctv) → H1 f = none → s.heap.objs.size ≤ f → H1 c' = some (CodeO c' (X.env.qual ++ "<lambda>")) → Q (.ref f) s') :
    wpAny (model X.prog X.w) X.A (eval (.Lambda params body scope pos) X.env) Q E s := by
  obtain ⟨at_, tri, ent⟩ := tr
  have bP : s.heap.BuiltinsAt X.mg P := tb.bm.keeps I.bk
  have gP : s.heap.get? P = some { cls := .none, data := .fields ps } := I.hok P _ at_
  have outer : ∀ f, s.heap.objs.size ≤ f → f ∉ frs X.stack := fun f big z => (List.mem_cons.mp (I.stkSub _ z)).elim (fun e => absurd I.lt (Nat.not_lt.mpr (by rw [← e]; exact big))) fun e => I.nofs big e
  refine PySem.W.kla_eval noDef ?_
  cases hit : codeAmong pos ps.toList with
  | some cv =>
    obtain ⟨c', e, known⟩ := ent pos cv hit
    subst e
    refine PySem.W.kla_makeFunctionHit (mg := X.mg) (c := c) (P := P) (ps := ps) (closure_ok fr) I.ok.glob (I.mod.glob.keeps I.bk) code (tb.code.keeps I.bk) gP tri hit bP fun ctv h1 tk more big => ?_
    have I1 : Inv X pins σ H { s with heap := h1.push (PySem.W.kla_obj "<lambda>" (X.env.qual ++ "<lambda>") params body scope (cloFrom X.env.cells scope.names []) ((X.mg "__name__").getD .none) c' ctv), toks := tk } := I.kept fun b o e => Heap.get?_push_of_some _ (more b o e)
    exact h h1.objs.size c' ((X.mg "__name__").getD .none) ctv H _ I1 (.inl ⟨rfl, hit⟩) (Heap.get?_push_size _ rfl) (I.hok.fresh big) big known
  | none =>
    refine PySem.W.kla_makeFunction (mg := X.mg) (c := c) (P := P) (ps := ps) (closure_ok fr) I.ok.glob (I.mod.glob.keeps I.bk) code (tb.code.keeps I.bk) gP tri hit tb.gP bP fun c' ctv h1 tk more big lt rec tab => ?_
    obtain ⟨_, ob, fs, nm, e, gob, dob, qob⟩ := rec
    cases e
    have big1 : s.heap.objs.size ≤ h1.objs.size := Nat.le_trans big (Nat.le_of_lt lt)
    have fresh : H c' = none := I.hok.fresh big
    have ne : P ≠ c' := ne_of_none at_ fresh
    have I1 := inv_table (t' := tk) (more := #[rawInt pos.line, rawInt pos.col, .ref c']) (h' := h1.push (PySem.W.kla_obj "<lambda>" (X.env.qual ++ "<lambda>") params body scope (cloFrom X.env.cells scope.names []) ((X.mg "__name__").getD .none) c' ctv)) I at_ (fun b o nb e => Heap.get?_push_of_some _ (more b o nb e)) (Heap.get?_push_of_some _ tab) big ⟨ob, fs, nm, Heap.get?_push_of_some _ gob, dob, qob⟩
    have eL : (ps ++ #[rawInt pos.line, rawInt pos.col, .ref c']).toList = ps.toList ++ [rawInt pos.line, rawInt pos.col, .ref c'] := by simp
    refine h h1.objs.size c' ((X.mg "__name__").getD .none) ctv _ _ I1 (.inr ⟨_, _, fresh, ne, rfl, by rw [eL]; exact PySem.TriplesOk_snoc _ _ _ _ tri, fun p cv e => by
      rw [eL] at e
      exact among_app _ tri e⟩) (Heap.get?_push_size _ rfl) ?_ big1 upd_same
    rw [upd_ne (Nat.ne_of_gt lt), upd_ne (Nat.ne_of_gt (Nat.lt_of_lt_of_le (Heap.lt_size gP) big1))]
    exact I.hok.fresh big1
abbrev LamD := Arguments × Expr × Scope
/-- what stands at a lambda's own place -/
def lamAt (X : Cx) (D : LamD) (f c' : Addr) : Heap → Prop := fun h => ∃ pm ctv : Value, h.get? f = some (PySem.W.kla_obj "<lambda>" (X.env.qual ++ "<lambda>") D.1 D.2.1 D.2.2 (cloFrom X.env.cells D.2.2.names []) pm c' ctv)
def lamOf (X : Cx) (LT : Nat → Option LamD) (j : Nat) (f c' : Addr) : Heap → Prop := match LT j with
  | some D => lamAt X D f c'
  | none => fun _ => False
def mLam (n k j : Nat) : ME := fun _ st => match st[n]? with
  | some (.tbl i) => match Nat.beq i k with
    | true => .ok (.lam j) st
    | false => .no
  | _ => .no
theorem sE_lam {Γ : Gam} {X : Cx} {W : WX} (n k j : Nat) {LT : Nat → Option LamD} {c P : Addr} {params : Arguments} {body : Expr} {scope : Scope} {lpos : Pos} (hj : LT j = some (params, body, scope)) (hΓ : ∀ f c', Γ.lam j f c' = lamOf X LT j f c') (hQ : Γ.lamQ = X.env.qual ++ "<lambda>")
    (TB : TabB X.base X.mg c P) (hcode : X.env.code = .ref c) (htad : Γ.tad k = (P, X.env.qual ++ "<lambda>")) (L : LamS X.env.scope scope) (hx : X.ex = []) (hdef : defaultsOf params X.env = ([], []) := by rfl) : SE Γ X W (.Lambda params body scope lpos) (mLam n k j) := by
  refine ⟨fun pins s0 σ H Q I pre => ?_⟩
  obtain ⟨σp, F, ρ, st, sr, re, h⟩ := pre
  unfold mLam at h
  cases q1 : st[n]? with
  | none => rw [q1] at h; exact h.elim
  | some o =>
    rw [q1] at h
    cases o with
    | tbl i =>
      simp only at h
      cases q2 : Nat.beq i k with
      | false => rw [q2] at h; exact h.elim
      | true =>
        rw [q2] at h
        have ej := Nat.eq_of_beq_eq_true q2
        subst ej
        have hn : n < ρ.length := by rw [sr.rs.len]; exact (List.getElem?_eq_some_iff.mp q1).1
        obtain ⟨e0, ps, hP, tri, old⟩ := RO.table (sr.rs.at_ n _ ρ[n] q1 (List.getElem?_eq_getElem hn))
        have eP : ρ[n] = P := by rw [e0, htad]
        rw [eP] at hP
        have eq2 : (Γ.tad i).2 = X.env.qual ++ "<lambda>" := by rw [htad]
        refine lam_new2 I TB hcode ⟨hP, tri, fun pos cv e => ?_⟩ hdef (L.has I.ok) fun f c' pm ctv H1 s1 I1 how hf hfn hfr hco => ?_
        · obtain ⟨c0, z1, _, _, z2⟩ := old pos cv e
          exact ⟨c0, z1, by rw [← eq2]; exact z2⟩
        have po : Post Γ F ρ H ρ st H1 := by
          rcases how with ⟨how, _⟩ | ⟨l, u, fresh, ne, e, tri2, ent⟩
          · subst how; exact .refl sr.rs
          · rw [e, ← eq2]
            exact Post.table sr q1 (by rw [List.getElem?_eq_getElem hn, eP]) hP fresh tri2 old ent (by rw [htad])
        have sr1 := sr.post po
        have pt : lamOf X LT j f c' s1.heap := by
          unfold lamOf
          rw [hj]
          exact ⟨pm, ctv, hf⟩
        have ok : ObjOk X.prog X.w (upd H1 f (.ext (Γ.lam j f c'))) s1.heap f (.ext (Γ.lam j f c')) := by
          rw [hΓ]
          refine ⟨pt, ⟨_, hf⟩, fun h h' q r => ?_⟩
          unfold lamOf at q ⊢
          rw [hj] at q ⊢
          obtain ⟨pm, ctv, e⟩ := q
          exact ⟨pm, ctv, r _ e⟩
        have small : ∀ b, s0.heap.get? b ≠ none → b ≠ f := fun b e z => by
          cases q : s0.heap.get? b with
          | none => exact e q
          | some o =>
            have := Heap.lt_size q
            rw [z] at this
            exact absurd this (Nat.not_lt.mpr hfr)
        have there : ∀ b, X.s_0.heap.get? b ≠ none → s0.heap.get? b ≠ none := fun b e => by
          cases q : X.s_0.heap.get? b with
          | none => exact (e q).elim
          | some o =>
            obtain ⟨o', e'⟩ := I.base.there b o q (by rw [hx]; simp)
            rw [e']; simp
        have I2 : Inv X pins σ (upd H1 f (.ext (Γ.lam j f c'))) s1 := Inv.track I1 hfn (fun b _ w => by
          rcases w with w | w | ⟨x, w⟩ | ⟨p, hp, w⟩
          · exact small b (there b w)
          · subst w
            obtain ⟨m, ⟨u, _, _, hu, _⟩, _⟩ := I.loc
            exact small _ (by rw [hu]; simp)
          · obtain ⟨v, u, hu, _⟩ := I.cell x b w
            exact small _ (by rw [hu]; simp)
          · obtain ⟨h1, _, _⟩ := I.pin p hp
            rw [← w]
            exact small _ (by rw [h1]; simp)) (fun b e => by
          cases q : X.s_0.heap.get? b with
          | none => exact (e q).elim
          | some o =>
            obtain ⟨o', e'⟩ := I1.base.there b o q (by rw [hx]; simp)
            rw [e']; simp) ok
        have p3 : Post Γ F ρ H1 ρ st (upd H1 f (.ext (Γ.lam j f c'))) := .laid sr1.rs hfn
        have fr := sr1.fresh hfn
        have nec : c' ≠ f := ne_of_none hco hfn
        have cF : c' ∉ F ∧ c' ∉ ρ := by
          rcases how with ⟨_, am⟩ | ⟨l, u, fresh, ne, e, tri2, ent⟩
          · obtain ⟨c0, z1, z2, z3, _⟩ := old _ _ am
            cases z1
            exact ⟨z2, z3⟩
          · exact sr.fresh fresh
        refine ⟨.ref f, _, I2, rfl, h (.ref f) _ ρ (po.trans sr.rs p3) ⟨f, c', rfl, fr.1, fr.2, upd_same, cF.1, cF.2, ?_⟩⟩
        rw [upd_ne nec, hQ]
        exact hco
    | _ => exact h.elim
/-- what is tracked at f is called by the name a -/
theorem pe_actE {CXg : CXT} {Eg : XK} {Ng : List Str} {qg : Str} {sg : Scope} {g f c' : Addr} {cdg : Value} {D : LamD} {k i : Nat} {a : Str} {pn : List (Addr × Obj)} {xe : Value → Shared → Prop} {W : WX} {E : XK} {tb : TE} {p1 p2 : Pos} {X : Cx} {pins : List (Addr × Obj)} {σ : L2.St} {H : Hp} {s : Shared}
    (J0 : Inv X pins σ H s) (L : LamS X.env.scope D.2.2)
    (bind0 : ∀ (pm ctv : Value), bindArgs (PySem.W.kla_fn "<lambda>" (X.env.qual ++ "<lambda>") D.1 D.2.1 D.2.2 (cloFrom X.env.cells D.2.2.names []) pm (.ref c') ctv) ⟨[], []⟩ = pure [])
    (takes : Takes ((cxOf CXg X.prog X.w X.K X.mg X.base Ng qg sg g cdg X.A X.stack s H Eg).tr pn xe) W) (le : ∀ cls d σ' H', E cls d H' → W cls d σ' H') (room : Room (k + 1) (X.A.deeper (envOfC qg sg s.heap.objs.size g cdg)))
    (inner : ∀ (A : Around) (outer : List Env) (s : Shared) (H : Hp), Room k (A.deeper (lamEnv X D.2.2 s.heap.objs.size f c')) → PE (lamCx X A outer s H E D.2.2 f c') D.2.1 tb)
    (at_ : Ng[i]? = some a) (vis : Vis sg a) (d1 : (a == ("__debug__" : Str)) = false) (d2 : (a == ("__classdict__" : Str)) = false) :
    PE ((cxOf CXg X.prog X.w X.K X.mg X.base Ng qg sg g cdg X.A X.stack s H Eg).tr pn xe) (.Call (.Name a p1) [] [] p2)
      (fun σ9 H9 Q9 => σ9[i]? = some (some (.ref f)) ∧ H9 c' = some (CodeO c' (X.env.qual ++ "<lambda>")) ∧ H9 f = some (.ext (lamAt X D f c')) ∧ tb σ H9 Q9) := by
  refine ⟨fun pins9 s9 σ9 H9 Q9 I9 pre => ?_⟩
  obtain ⟨here, codeH, lamH, told⟩ := pre
  have nm := (pe_var (pos := p1) (i := i) at_ vis d1 d2).run pins9 s9 σ9 H9 (fun v H1 => v = .ref f ∧ H1 = H9) I9 ⟨.ref f, here, rfl, rfl⟩
  refine wpAny_Call_Name_kw (thn nm fun u s1 got => ?_)
  obtain ⟨v, H1, I1, rel, ev, eH⟩ := got
  subst ev
  subst eH
  obtain rfl : u = Value.ref f := rel
  obtain ⟨⟨pm, ctv, ofl⟩, _, _⟩ := I1.hok f _ lamH
  obtain ⟨⟨oc, vs, t, o1, o2, o3⟩, _, _⟩ := I1.hok c' _ codeH
  refine PySem.W.callWith_F0
    ⟨_, _, _, _, ofl⟩ ?_
  have base1 : Un (frs X.stack) [] H H1 s.heap s1.heap := I1.base
  have goes : codeAny (model X.prog X.w) (X.A.deeper (envOfC qg sg s.heap.objs.size g cdg)) (.call (.ref f) ⟨[], []⟩)
      (CR (L2.CX X.prog X.w) (envOfC qg sg s.heap.objs.size g cdg :: X.stack) X.prog X.w H1 s1 Q9 E) s1 := by
    refine PySem.W.kla_callFunE room.depth ofl rfl L.co L.gen rfl
      ⟨c', oc, vs, t, rfl, o1, o2, o3⟩ ?_
    rw [bind0 pm ctv]
    refine wpAny_pure (wpAny_newFunctionEnv (fun y hy => (L.own y hy).2) (fun y hy => absurd hy (by simp))
      (fun h9 ns9 sb9 => ⟨I1.nolimit.fresh _ sb9, ?_⟩) L.kind)
    show codeAny _ _ (.expr D.2.1 (lamEnv X D.2.2 s1.heap.objs.size f c')) _ _
    have kept9 : ∀ b o, s1.heap.get? b = some o → h9.get? b = some o := fun b o e9 =>
      sb9.extBut b o (Nat.ne_of_lt (Heap.lt_size e9)) (Heap.get?_push_of_some _ e9)
    have J9 : Inv (lamCx X (X.A.deeper (envOfC qg sg s.heap.objs.size g cdg)) (envOfC qg sg s.heap.objs.size g cdg :: X.stack) s1 H1 E D.2.2 f c') [] σ H1
        { s1 with heap := h9, toks := s1.toks + ([] : List (Str × Value)).length } := lam_start2 J0 L I1.env0 room.hd base1 ns9 kept9
    have runs := (inner _ (envOfC qg sg s.heap.objs.size g cdg :: X.stack) s1 H1 (room.deeper _)).run [] _ _ H1 Q9 J9 told
    refine PySem.W.kla_codeExpr (wpAny_mono runs (fun v s' z => ?_) fun e s' z => z)
    obtain ⟨w', H', K9, rv, q⟩ := z
    exact ⟨w', H', K9.os, K9.bare, K9.base, K9.hok, rv, q⟩
  have ps : Passes (L2.CX X.prog X.w) ((cxOf CXg X.prog X.w X.K X.mg X.base Ng qg sg g cdg X.A X.stack s H Eg).tr pn xe) E := passes_call takes le
  refine wpAny_call (codeAny_mono goes fun r s' z => ?_)
  cases r with
  | error e => exact ps pins9 σ9 H1 s1 e s' I1 z
  | ok fl => cases fl with
    | ret u => exact I1.after z
    | next => exact z.elim
    | brk => exact z.elim
    | cont => exact z.elim
/-- x(e), x a def that tells what was raised, e one of the lambdas -/
def caughtK (sub : Nat → Option Bool) (tbl : Nat → ME) (σ : Ev) (t : T) (st1 : List O) : Rs T := match t with
  | .lam j => match tbl j σ st1 with
    | .ok _ st2 => .ok .non st2
    | .exc e st2 => match sub e.c with
      | some true => .ok (.exc e.c e.fs e.vs) st2
      | _ => .no
    | .no => .no
  | _ => .no
def mCaughtV (sub : Nat → Option Bool) (tbl : Nat → ME) (a : ME) : ME := fun σ st => (a σ st).bind (caughtK sub tbl σ)
structure LamOk (Γ : Gam) (X : Cx) (kk : Nat) (D : LamD) (m : ME) : Prop where
  l : LamS X.env.scope D.2.2
  b : ∀ (q : Str) (cl : List (Str × Addr)) (pm cv ctv : Value), bindArgs (PySem.W.kla_fn "<lambda>" q D.1 D.2.1 D.2.2 cl pm cv ctv) ⟨[], []⟩ = pure []
  m : ∀ (A : Around) (outer : List Env) (s : Shared) (H : Hp) (E : XK) (f c' : Addr), Room kk (A.deeper (lamEnv X D.2.2 s.heap.objs.size f c')) → SE Γ (lamCx X A outer s H E D.2.2 f c') (WF E) D.2.1 m
theorem sE_caughtV {Γ : Gam} {X : Cx} {W : WX} {sub : Nat → Option Bool} {tbl : Nat → ME} {LT : Nat → Option LamD} {ma : ME} {ea : Expr} {x a : Str} {g CS : Addr} {kk : Nat} {pg : Arguments} {bg : List Stmt} {sg : Scope} {fd : FuncData} {Ng : List Str} {p pos : Pos}
    (he : SE Γ X W ea ma) (hΓ : ∀ j f c', Γ.lam j f c' = lamOf X LT j f c') (hQ : Γ.lamQ = X.env.qual ++ "<lambda>") (hT : ∀ j D, LT j = some D → LamOk Γ X kk D (tbl j))
    (hm : X.mg x = some (.ref g)) (hk : PySem.W.keepIn X.K (.ref g) = true) (Fd : FunD X.K x x pg bg sg [] [] g fd) (hb : L2.Binds X.K fd [a] []) (Sg : FnScope Ng [a] sg) (hNg : Ng[0]? = some a) (hva : Vis sg a) (hG : ∀ cdv, GivesTo X Ng x sg g cdv bg a (X.env.qual ++ "<lambda>") (TCaught X.K CS))
    (hr : Room (kk + 2) X.A) (hsub : ∀ j, sub j = some true → PySem.W.exmOne X.K (.ref (Γ.cad j)) (.ref CS) = some true)
    (hg : Gl X x := by rfl) (hdb : (x == ("__debug__" : Str)) = false := by decide) (hd : (a == ("__debug__" : Str)) = false := by decide) (hcd : (a == ("__classdict__" : Str)) = false := by decide)
    (he0 : starEach [ea] X.env = (false, eval ea X.env) :: starEach [] X.env := by rfl) (hpl : (backTo pos (starEach [] X.env)).any (·.1) = false := by rfl) : SE Γ X W (.Call (.Name x p) [ea] [] pos) (mCaughtV sub tbl ma) := by
  refine ⟨fun pins s0 σ H Q I pre => ?_⟩
  obtain ⟨σp, F, ρ, st, sr, re, h⟩ := pre
  obtain ⟨oc, od, dV, kV, doc, pm0, an, cdv, ct, osl, rfl, lk, hcg, _, _⟩ := Fd.ex
  refine wpAny_Call_Name_kw (ld_glob I hg hm ?_ hdb)
  refine PySem.W.callWith_K (h₀ := X.base) I.ok.mod.kin hk ?_ he0 hpl
  have arg := he.run pins s0 σ H (fun v H1 => ∃ (t : T) (ρ1 : List Addr) (st1 : List O), Post Γ F ρ H ρ1 st1 H1 ∧ RV Γ F ρ1 H1 t v ∧ Ran Γ F (RT Γ F) (caughtK sub tbl σp t st1) ρ1 st1 H1 (fun cls d H' => W cls d σ H') Q) I
    ⟨σp, F, ρ, st, sr, re, Ran.bind sr h fun t st1 v H1 ρ1 _ s1 p1 r1 h1 => ⟨t, ρ1, st1, p1, r1, h1⟩⟩
  rw [he0]
  show wpAny _ _ (spliced ((false, eval ea X.env) :: backTo pos (starEach [] X.env))) _ _ s0
  refine Calls.spliced_cons (thn arg fun u s1 got => ?_)
  obtain ⟨v, H1, I1, rel, t, ρ1, st1, po, rv, hc⟩ := got
  unfold caughtK at hc
  cases t with
  | lam j =>
    simp only at hc
    obtain ⟨f, c', rfl, n1, n2, hF, n3, n4, hC⟩ := rv
    obtain rfl : u = Value.ref f := rel
    have sr1 := sr.post po
    rw [hΓ] at hF
    unfold lamOf at hF
    cases q0 : LT j with
    | none =>
      rw [q0] at hF
      obtain ⟨bad, _, _⟩ := I1.hok f _ hF
      exact bad.elim
    | some D =>
      rw [q0] at hF
      have T1 := hT j D q0
      rw [hQ] at hC
      have told : TCaught X.K CS (fun E H' Q' => H' f = some (.ext (lamAt X D f c')) ∧ tEv Γ (tbl j) (WF E) σ H' Q') H1 Q := by
        refine ⟨hF, σp, F, ρ1, st1, sr1, re.post sr po, ?_⟩
        cases q3 : tbl j σp st1 with
        | no => rw [q3] at hc; exact hc
        | ok t st2 =>
          rw [q3] at hc
          exact fun v H2 ρ2 p2 _ => hc .non H2 ρ2 p2 rfl
        | exc e st2 =>
          rw [q3] at hc
          simp only at hc
          split at hc
          · rename_i e1
            intro cls d H2 ρ2 p2 rx
            obtain ⟨z1, z2⟩ := rx
            subst z1
            refine ⟨hsub _ e1, fun a9 ha => ?_⟩
            have s2 := sr1.post p2
            have p3 : Post Γ F ρ2 H2 ρ2 st2 (upd H2 a9 (ExV (.ref (Γ.cad e.c)) d a9)) := .laid s2.rs ha
            refine hc (.ref a9) _ ρ2 (p2.trans sr1.rs p3) ⟨a9, d, rfl, (s2.fresh ha).1, (s2.fresh ha).2, upd_same, ?_⟩
            rcases z2 with ⟨y1, y2, y3⟩ | ⟨dd, fvs, y1, y2, y3, y4, y5, y6⟩
            · exact .inl ⟨y1, y2, p3.rvs s2.rs y3⟩
            · exact .inr ⟨dd, fvs, y1, y2, y3, by rw [upd_ne (ne_of_none y4 ha)]; exact y4, y5, p3.rvs s2.rs y6⟩
          · exact hc.elim
      refine Calls.spliced_nil ⟨I1.kIn, ?_⟩
      refine wpAny_call (codeAny_mono (run_ofS (CX := C8.CX0) (N := Ng) (ps := [a]) (us := [.ref f]) (vs := [.ref f]) (Q := Q) (E := C8.E0) lk hcg Sg hr I1.env0 (hb s1 [.ref f] I1.kIn rfl) (.cons rfl .nil) rfl fun hr2 => ?_) fun r s2 hq => ?_)
      · obtain ⟨t1, ht1, hq1⟩ := hG cdv f c' s1 H1 Q (fun E H' Q' => H' f = some (.ext (lamAt X D f c')) ∧ tEv Γ (tbl j) (WF E) σ H' Q')
          (fun W9 pn xe E p1 p2 tk hW => pe_actE (D := D) (i := 0) I1 T1.l (fun pm ctv => T1.b _ _ _ _ _) tk hW hr2 (fun A outer s H hr3 => T1.m A outer s H E f c' hr3) hNg hva hd hcd) hC told
        exact ⟨t1, ht1.nox, hq1⟩
      · cases r with
        | error e => exact (show False from hq).elim
        | ok fl => cases fl with
          | ret u => exact I1.after hq
          | next => exact False.elim hq
          | brk => exact False.elim hq
          | cont => exact False.elim hq
  | _ => exact hc.elim
end WR
namespace WR
open PySem PySem.Spec PyProof.Rows L2
/-! ### x in a tuple of data -/
def rInTD (K : PySem.W.Frag) (neg : Bool) : R2 := fun x y H Q => ∃ d ds, Dp K H x d ∧ Dp K H y (.tuple ds) ∧ SeqAt.shaped d = true ∧ SeqAt.shaped (.tuple ds) = true ∧ Q (.bl (neg != ds.any fun z => PyData.eqv z d)) H
section
variable {X : Cx}
theorem op_inTD (hu : X.A.units + 65 < cLine) : OpR X (compareOp .In) (rInTD X.K false) := by
  intro pins s σ H x y v u Q I rx ry h
  obtain ⟨d, ds, hd, he, sd, se, q⟩ := h
  obtain ⟨as, r1⟩ := Dp.reads I d x v hd rx
  obtain ⟨bs, r2⟩ := Dp.reads I (.tuple ds) y u he ry
  exact SeqAt.in_tuple_reads r2 r1 (SeqAt.canLay_of_shaped se) (SeqAt.canLay_of_shaped sd) (room_in_shaped sd hu) ⟨.bl _, H, I, rfl, by simpa using q⟩
theorem op_notInTD (hu : X.A.units + 65 < cLine) : OpR X (compareOp .NotIn) (rInTD X.K true) := by
  intro pins s σ H x y v u Q I rx ry h
  obtain ⟨d, ds, hd, he, sd, se, q⟩ := h
  obtain ⟨as, r1⟩ := Dp.reads I d x v hd rx
  obtain ⟨bs, r2⟩ := Dp.reads I (.tuple ds) y u he ry
  exact SeqAt.notIn_tuple_reads r2 r1 (SeqAt.canLay_of_shaped se) (SeqAt.canLay_of_shaped sd) (room_in_shaped sd hu) ⟨.bl _, H, I, rfl, by simpa using q⟩
end
def inDT (neg : Bool) (a b : T) (st : List O) : Rs T := match pd st 100 a, pd st 100 b with
  | some d, some (.list ds) => match SeqAt.shaped d && SeqAt.shaped (.list ds) with
    | true => .ok (.bl (neg != ds.any fun z => PyData.eqv z d)) st
    | false => .no
  | some d, some (.tuple ds) => match SeqAt.shaped d && SeqAt.shaped (.tuple ds) with
    | true => .ok (.bl (neg != ds.any fun z => PyData.eqv z d)) st
    | false => .no
  | _, _ => .no
def rInX (K : PySem.W.Frag) (neg : Bool) : R2 := fun x y H Q => (∃ d ds, Dp K H x d ∧ Dp K H y (.list ds) ∧ SeqAt.shaped d = true ∧ SeqAt.shaped (.list ds) = true ∧ Q (.bl (neg != ds.any fun z => PyData.eqv z d)) H) ∨ rInTD K neg x y H Q
section
variable {X : Cx} {Γ : Gam}
theorem op_inX (hu : X.A.units + 65 < cLine) : OpR X (compareOp .In) (rInX X.K false) := by
  have h1 : OpR X (compareOp .In) (fun x y H Q => ∃ d ds, Dp X.K H x d ∧ Dp X.K H y (.list ds) ∧ SeqAt.shaped d = true ∧ SeqAt.shaped (.list ds) = true ∧ Q (.bl (false != ds.any fun z => PyData.eqv z d)) H) := fun pins s σ H x y v u Q I rx ry ⟨d, ds, a, b, c, e, q⟩ =>
    op_inD hu pins s σ H x y v u Q I rx ry ⟨d, ds, a, b, c, e, by simpa using q⟩
  exact h1.or (op_inTD hu)
theorem op_notInX (hu : X.A.units + 65 < cLine) : OpR X (compareOp .NotIn) (rInX X.K true) := by
  have h1 : OpR X (compareOp .NotIn) (fun x y H Q => ∃ d ds, Dp X.K H x d ∧ Dp X.K H y (.list ds) ∧ SeqAt.shaped d = true ∧ SeqAt.shaped (.list ds) = true ∧ Q (.bl (true != ds.any fun z => PyData.eqv z d)) H) := fun pins s σ H x y v u Q I rx ry ⟨d, ds, a, b, c, e, q⟩ =>
    op_notInD hu pins s σ H x y v u Q I rx ry ⟨d, ds, a, b, c, e, by simpa using q⟩
  exact h1.or (op_notInTD hu)
theorem ok_inX (neg : Bool) : OpOk Γ (rInX Γ.K neg) (inDT neg) := fun F ρ st H x y a b Q E s ra rb h => by
  unfold inDT at h
  split at h
  · rename_i d ds e1 e2
    split at h
    · rename_i e3
      rw [Bool.and_eq_true] at e3
      exact .inl ⟨d, ds, pd_dp s.rs 100 a x d e1 ra, pd_dp s.rs 100 b y _ e2 rb, e3.1, e3.2, Ran.done s h rfl⟩
    · exact h.elim
  · rename_i d ds e1 e2
    split at h
    · rename_i e3
      rw [Bool.and_eq_true] at e3
      exact .inr ⟨d, ds, pd_dp s.rs 100 a x d e1 ra, pd_dp s.rs 100 b y _ e2 rb, e3.1, e3.2, Ran.done s h rfl⟩
    · exact h.elim
  · exact h.elim
end
/-! ### t.index(text), l.extend(list) -/
def strsOf : List T → Option (List Str)
  | [] => some []
  | .str x :: r => match strsOf r with
    | some xs => some (x :: xs)
    | none => none
  | _ => none
def firstIx : List Str → Str → Option Nat
  | [], _ => none
  | x :: r, z => match decide (x = z) with
    | true => some 0
    | false => match firstIx r z with
      | some n => some (n + 1)
      | none => none
theorem firstIx_ok : ∀ {xs : List Str} {z : Str} {j : Nat}, firstIx xs z = some j → xs[j]? = some z ∧ ∀ m, m < j → xs[m]? ≠ some z
  | x :: r, z, j, h => by
    unfold firstIx at h
    cases q : decide (x = z) with
    | true =>
      rw [q] at h; cases h
      exact ⟨by rw [of_decide_eq_true q]; rfl, fun m hm => by omega⟩
    | false =>
      rw [q] at h
      simp only at h
      cases q2 : firstIx r z with
      | none => rw [q2] at h; cases h
      | some n =>
        rw [q2] at h; cases h
        obtain ⟨a, b⟩ := firstIx_ok q2
        refine ⟨by simpa using a, fun m hm => ?_⟩
        cases m with
        | zero => simpa using of_decide_eq_false q
        | succ m => simpa using b m (by omega)
theorem strsOf_rvs {Γ : Gam} {F ρ : List Addr} {H : Hp} : ∀ {ts : List T} {xs : List Str} {vs : List V}, strsOf ts = some xs → RVs Γ F ρ H ts vs → vs = xs.map V.str
  | [], xs, vs, e, r => by cases e; exact r
  | t :: ts, xs, vs, e, r => by
    obtain ⟨v, w, rfl, r1, r2⟩ := r
    cases t with
    | str x =>
      unfold strsOf at e
      cases q : strsOf ts with
      | none => rw [q] at e; cases e
      | some ys =>
        rw [q] at e; cases e
        rw [strsOf_rvs q r2]
        cases (show v = .str x from r1)
        rfl
    | _ => simp [strsOf] at e
def isTu (t : T) (_ : List O) : Bool := match t with
  | .tup _ => true
  | _ => false
def indexT (o : T) (ts : List T) (st : List O) : Rs T := match o, ts with
  | .tup xs, [.str z] => match strsOf xs with
    | some ss => match firstIx ss z with
      | some j => .ok (.int (j : Nat)) st
      | none => .no
    | none => .no
  | _, _ => .no
theorem ok_index {Γ : Gam} {K : PySem.W.Frag} (hK : Γ.K = K) : MetOk Γ (fun x xs H Q => ∃ p, ∃ ys : List Str, ∃ z j, x = .ref p ∧ xs = [.str z] ∧ SqT K H p (ys.map V.str) ∧ ys[j]? = some z ∧ (∀ m, m < j → ys[m]? ≠ some z) ∧ Q (.int (j : Nat)) H) indexT := fun F ρ st H x xs t ts Q E s r rs h => by
  unfold indexT at h
  split at h
  · rename_i ys z
    split at h
    · rename_i ss e1
      split at h
      · rename_i j e2
        obtain ⟨p, vs, rfl, h1, h2⟩ := r
        obtain ⟨v, w, rfl, r1, r2⟩ := rs
        cases (show w = [] from r2)
        cases (show v = .str z from r1)
        have := strsOf_rvs e1 h2
        subst this
        obtain ⟨a, b⟩ := firstIx_ok e2
        exact ⟨p, ss, z, j, rfl, rfl, by rw [← hK]; exact tupK_sq h1, a, b, Ran.done s h rfl⟩
      · exact h.elim
    · exact h.elim
  · exact h.elim
def extendT (o : T) (ts : List T) (st : List O) : Rs T := match ownL st o, ts with
  | some (n, xs), [.lst ys] => match decide (xs.length + ys.length ≤ 16777216) with
    | true => .ok .non (st.set n (.lst (xs ++ ys)))
    | false => .no
  | _, _ => .no
theorem RVs.app {Γ : Gam} {F ρ : List Addr} {H : Hp} : ∀ {xs ys : List T} {vs ws : List V}, RVs Γ F ρ H xs vs → RVs Γ F ρ H ys ws → RVs Γ F ρ H (xs ++ ys) (vs ++ ws)
  | [], _, _, _, h, k => by cases (show _ = [] from h); exact k
  | x :: xs, _, _, _, h, k => by
    obtain ⟨v, r, rfl, h1, h2⟩ := h
    exact ⟨v, _, rfl, h1, RVs.app h2 k⟩
theorem ok_extend {Γ : Gam} : MetOk Γ rExtend extendT := fun F ρ st H x xs t ts Q E s r rs h => by
  unfold extendT at h
  split at h
  · rename_i n ys zs e1
    split at h
    · rename_i e3
      obtain ⟨p, vs, rfl, h1, h2, h3⟩ := ownL_ok s.rs e1 r
      obtain ⟨v, w, rfl, r1, r2⟩ := rs
      cases (show w = [] from r2)
      obtain ⟨b, ws, rfl, n1, n2, g1, g2⟩ := r1
      exact ⟨p, b, vs, ws, rfl, rfl, h2, g1, by rw [← h3.length, ← g2.length, sizeLine_eq]; exact of_decide_eq_true e3, Ran.ends h (.lstSet s h1 h2 (h3.app g2)) rfl⟩
    · exact h.elim
  · exact h.elim
/-- a constant tuple of the text's own -/
def tupB (K : PySem.W.Frag) (x : Str) (t : T) : Bool := conB K x t && match PySem.W.nsIn K mainGlobals x with
  | some (some (.ref a)) => match K.lookup a with
    | some o => decide (o.cls = .type "tuple") && o.dict.isNone
    | none => false
  | _ => false
def TupT (K : PySem.W.Frag) (mg : Str → Option Value) (x : Str) (t : T) : Prop := ∃ a o, mg x = some (.ref a) ∧ K.lookup a = some o ∧ o.cls = .type "tuple" ∧ o.dict = none ∧ ∀ (Γ : Gam), Γ.K = K → ∀ F ρ H, RV Γ F ρ H t (.ref a)
theorem tupB_ok {K : PySem.W.Frag} {h : Heap} {mg : Str → Option Value} {x : Str} {t : T} (X : K.In h) (G : h.Ns mainGlobals mg) (c : tupB K x t = true) : TupT K mg x t := by
  unfold tupB at c
  rw [Bool.and_eq_true] at c
  obtain ⟨c1, c2⟩ := c
  obtain ⟨u, v, e1, e2, e3⟩ := conB_ok X G c1
  split at c2
  · rename_i a e
    split at c2
    · rename_i o e4
      rw [Bool.and_eq_true] at c2
      have e5 := PySem.W.mg_of X G e
      rw [e1] at e5
      cases e5
      have ev : v = .ref a := by
        cases v with
        | ref b => cases (show Value.ref a = Value.ref b from e2); rfl
        | _ => first
          | (cases (show Value.ref a = _ from e2))
          | (obtain ⟨_, z⟩ := e2; cases z)
      subst ev
      exact ⟨a, o, e1, e4, of_decide_eq_true c2.1, by simpa using c2.2, e3⟩
    · cases c2
  · cases c2
theorem sE_indexC {Γ : Gam} {X : Cx} {W : WX} {x : Str} {t : T} {np : Pos} {e : Expr} {m : M (List T)} {apos cpos : Pos} (hK : X.K = Γ.K) (c : TupT X.K X.mg x t) (ha : SA Γ X W [e] m) (hg : Gl X x := by rfl) (hd : (x == ("__debug__" : Str)) = false := by decide)
    (hbase : attributeBase (.Name x np) "index" X.env (eval (.Name x np) X.env) = eval (.Name x np) X.env := by rfl)
    (hfew : ((backTo cpos (starEach (e :: []) X.env)).all (fun x => !x.1) && (backToKw cpos (keywordEach [] X.env)).all (fun x => x.1.isSome) && decide ((e :: []).length + ([] : List Keyword).length + (if ([] : List Keyword).isEmpty then 0 else 1) < 30)) = true := by rfl)
    (hline : (apos.endLine == cpos.line) = true := by rfl) (hs : starEach (e :: []) X.env = (false, eval e X.env) :: starEach [] X.env := by rfl) (hplain : (backTo cpos (starEach [] X.env)).any (·.1) = false := by rfl) :
    SE Γ X W (.Call (.Attribute (.Name x np) "index" apos) [e] [] cpos) (mCB (fun ts st => indexT t ts st) m) := by
  obtain ⟨a, o, h1, h2, h3, h4, h5⟩ := c
  refine (pe_bm PySem.F.plainAttrs_tuple PySem.F.slot_tuple_index PySem.F.type_tuple_index mt_tup_index (pe_glob (v := .ref a) hg h1 rfl hd) ha hbase hfew hline hs hplain).imp fun σ H Q ⟨σp, F, ρ, st, s, re, h⟩ => ?_
  refine ⟨.inr (.inl ⟨rfl, o, h2, h3, h4⟩), σp, F, ρ, st, s, re, Ran.bind s h fun ts st1 vs H1 ρ1 _ s1 p1 r1 k1 => ?_⟩
  exact ok_index hK.symm F ρ1 st1 H1 (.ref a) vs t ts Q _ s1 (h5 Γ hK.symm F ρ1 H1) r1 k1
end WR
namespace WR
open PySem PySem.Spec PyProof.Rows L2
/-! ### a def that makes lambdas: its own table of them -/
abbrev LamP := Nat → Addr → Addr → Heap → Prop
theorem ur65 {k : Nat} {A : Around} (h : Room k A) : A.units + 65 < cLine := by have := ur128 h; omega
theorem fn_okL {P : Program} {w : World} {K : PySem.W.Frag} {mg : Str → Option Value} {base : Heap} {g : LamP → Gam} {LT : Nat → Option LamD} {k n : Nat} {at_ : He.Defn} {fd : FuncData} {x qual : Str} {params : Arguments} {body : List Stmt} {scope : Scope} {N ps : List Str} {b : MS} (F : FunD K x qual params body scope [] [] (He.fAd K at_) fd) (S : FnScope N ps scope) (hn : ps.length = n)
    (hb : ∀ (A : Around) (outer : List Env) (s : Shared) (H : Hp) (E : XK), Room k (A.deeper (envOfC qual scope s.heap.objs.size (He.fAd K at_) (.ref (He.cT K at_).1))) →
      SSs (g (lamOf (cxOf (L2.CX P w) P w K mg base N qual scope (He.fAd K at_) (.ref (He.cT K at_).1) A outer s H E) LT)) (cxOf (L2.CX P w) P w K mg base N qual scope (He.fAd K at_) (.ref (He.cT K at_).1) A outer s H E) (fun cls d _ H => E cls d H) body b) :
    FnOk P w K mg base (L2.CX P w) (k + 1) (He.fAd K at_) fd ps (fun vs H Q E => ∀ Λ, spOf (g Λ) n (mDef N.length b) vs H Q E) := by
  obtain ⟨oc, od, dV, kV, doc, pm, an, cdv, ct, osl, rfl, lk, hcd, _, _⟩ := F.ex
  obtain ⟨c, e⟩ := He.codeIn_ref hcd
  subst e
  have e2 : (He.cT K at_).1 = c := He.codeOf_eq lk rfl
  subst e2
  refine fn_of lk hcd S (fun vs H Q E all => ?_) fun A outer s H vs Q E hr all => ?_
  · obtain ⟨ts, F, ρ, st, s, r, l, h⟩ := all fun _ _ _ _ => False
    rw [← r.length, l, hn]
  · obtain ⟨ts, F, ρ, st, sr, r, l, h⟩ := all (lamOf (cxOf (L2.CX P w) P w K mg base N qual scope (He.fAd K at_) (.ref (He.cT K at_).1) A outer s H E) LT)
    exact ⟨_, hb A outer s H E hr, mDef_run sr r h⟩
/-! ### where a lambda stands in a text -/
def forIter : Stmt → Expr
  | .For _ e _ _ _ => e
  | _ => .Name "" ⟨0, 0, 0, 0⟩
def forBody : Stmt → List Stmt
  | .For _ _ b _ _ => b
  | _ => []
def ifBody : Stmt → List Stmt
  | .If _ b _ _ => b
  | _ => []
def ifElse : Stmt → List Stmt
  | .If _ _ b _ => b
  | _ => []
def eltOf : Expr → Nat → Expr
  | .List es _, i => es.getD i (.Name "" ⟨0, 0, 0, 0⟩)
  | .Tuple es _ _, i => es.getD i (.Name "" ⟨0, 0, 0, 0⟩)
  | _, _ => .Name "" ⟨0, 0, 0, 0⟩
def stAt (b : List Stmt) (i : Nat) : Stmt := b.getD i (.Pass ⟨0, 0, 0, 0⟩)
def lamD : Expr → Option LamD
  | .Lambda a e s _ => some (a, e, s)
  | _ => none
end WR
namespace WR
open PySem PySem.Spec PyProof.Rows L2
/-! ### dicts whose keys are tuples -/
def keysQ : List T → Option (List Key)
  | [] => some []
  | t :: r => match keyT t, keysQ r with
    | some k, some ks => some (k :: ks)
    | _, _ => none
def keyQ : T → Option (List Key)
  | .tup xs => keysQ xs
  | _ => none
def ownQ (st : List O) : T → Option (Nat × List (List Key) × List T)
  | .ref n => match st[n]? with
    | some (.dcq ks vs) => some (n, ks, vs)
    | _ => none
  | _ => none
def hasQ (ks : List (List Key)) (k : List Key) : Bool := ks.any fun y => decide (y = k)
section
variable {Γ : Gam} {F ρ : List Addr} {H : Hp} {st : List O}
theorem keysQ_ok : ∀ {ts : List T} {ks : List Key} {vs : List V}, keysQ ts = some ks → RVs Γ F ρ H ts vs → vs = ks.map kV
  | [], _, _, e, r => by cases e; exact r
  | t :: ts, ks, vs, e, r => by
    obtain ⟨v, vr, rfl, r1, r2⟩ := r
    simp only [keysQ] at e
    split at e
    · rename_i k ks' e1 e2
      cases e
      rw [keyT_ok e1 r1, keysQ_ok e2 r2]; rfl
    · cases e
theorem keyQ_ok {t : T} {k : List Key} {v : V} (e : keyQ t = some k) (r : RV Γ F ρ H t v) : ∃ b, v = .ref b ∧ KeyT Γ.K H b k := by
  cases t with
  | tup xs =>
    obtain ⟨b, vs, rfl, h1, h2⟩ := r
    have e2 := keysQ_ok (show keysQ xs = some k from e) h2
    subst e2
    exact ⟨b, rfl, h1⟩
  | _ => simp [keyQ] at e
theorem ownQ_ok {a : T} {x : V} {n : Nat} {ks : List (List Key)} {xs : List T} (s : RS Γ F ρ H st) (e : ownQ st a = some (n, ks, xs)) (r : RV Γ F ρ H a x) :
    ∃ p, x = .ref p ∧ ρ[n]? = some p ∧ RO Γ F ρ H (.dcq ks xs) p := by
  cases a with
  | ref m =>
    obtain ⟨p, rfl, h1⟩ := r
    simp only [ownQ] at e
    cases q : st[m]? with
    | none => rw [q] at e; cases e
    | some o =>
      cases o with
      | dcq ks' ys => rw [q] at e; cases e; exact ⟨p, rfl, h1, s.at_ _ _ p q h1⟩
      | _ => rw [q] at e; cases e
  | _ => simp [ownQ] at e
theorem key_ofQ {P : Program} {w : World} {K : PySem.W.Frag} {h : Heap} {b : Addr} {k : List Key} (ok : HOk P w H h) (kin : K.In h) (r : KeyT K H b k) : (tupleKind (mixKind P w)).is h k b := by
  rcases r with e | ⟨o, its, n, e1, e2, e3, _, e4, _⟩
  · obtain ⟨o, _, e⟩ := e
    obtain ⟨_, _, its, r, ob, z1, z2, n, z3⟩ := ok b _ e
    exact ⟨ob, its.toArray, n, z1, z2, z3, by simpa using items_are r⟩
  · exact ⟨o, its, n, kin _ _ e1, e2, e3, items_are e4⟩
theorem hasQ_at : ∀ (ms : List (List Key × Addr × Value)) (k : List Key), (atKey ms k).isSome = hasQ (ms.map (·.1)) k
  | [], k => rfl
  | m :: ms, k => by
    have ih := hasQ_at ms k
    unfold atKey hasQ at *
    rw [List.find?_cons]
    cases d : decide (m.1 = k) with
    | true => simp [d]
    | false =>
      simp only [List.map_cons, List.any_cons, d, Bool.false_or]
      exact ih
end
section
variable {X : Cx} {ty td tv : TE} {o i e : Expr}
/-- what is known of such a dict -/
def DqAt (K : PySem.W.Frag) (w : World) (H : Hp) (a : Addr) (ms : List (List Key × Addr × Value)) : Prop := H a = some (.ext (dqAt w a ms)) ∧ (a == sysModules) = false ∧ ms.length ≤ sizeLine ∧ ∀ m ∈ ms, KeyT K H m.2.1 m.1
theorem DqAt.dict {P : Program} {w : World} {K : PySem.W.Frag} {H : Hp} {h : Heap} {a : Addr} {ms : List (List Key × Addr × Value)} (d : DqAt K w H a ms) (ok : HOk P w H h) (kin : K.In h) : h.DictOfH (tupleKind (mixKind P w)) a ms := by
  obtain ⟨e, _, _, ks⟩ := d
  obtain ⟨⟨o, es, ep, h1, h2, h3, h4, h5⟩, _, _⟩ := ok a _ e
  exact ⟨o, es, ep, h1, h2, h3, h4 P, fun m hm => key_ofQ ok kin (ks m hm), h5⟩
def tDInQ (X : Cx) (neg : Bool) (ty td : TE) : TE := fun σ H Q => ty σ H fun y H1 => td σ H1 fun x H2 => ∃ (a b : Addr) (k : List Key) (ms : List (List Key × Addr × Value)), x = .ref a ∧ y = .ref b ∧ KeyT X.K H2 b k ∧ DqAt X.K X.w H2 a ms ∧ Q (.bl (xor neg (hasQ (ms.map (·.1)) k))) H2
theorem pc_dinQ (hu : X.A.units + 1 < cLine) (hi : PE X i ty) (ho : PE X o td) : PC X .In i o (tDInQ X false ty td) := by
  refine ⟨fun pins s σ H Q I h => ?_⟩
  refine thn (hi.run pins s σ H _ I h) fun iv s1 ⟨y, H1, I1, ry, q1⟩ => thn (ho.run pins s1 σ H1 _ I1 q1) fun u s2 ⟨x, H2, I2, rx, a, b, k, ms, ex, ey, kt, dq, q2⟩ => ?_
  subst ex; subst ey
  obtain rfl : u = Value.ref a := rx
  obtain rfl : iv = Value.ref b := ry
  refine wpAny_in_heap (tupleKind_room_in1 hu) (key_ofQ I2.hok I2.kIn kt) dq.2.1 (dq.dict I2.hok I2.kIn) ?_
  rw [hasQ_at]
  refine ⟨.bl _, H2, I2.tok _, rfl, ?_⟩
  simpa using q2
theorem pc_dnotinQ (hu : X.A.units + 1 < cLine) (hi : PE X i ty) (ho : PE X o td) : PC X .NotIn i o (tDInQ X true ty td) := by
  refine ⟨fun pins s σ H Q I h => ?_⟩
  refine thn (hi.run pins s σ H _ I h) fun iv s1 ⟨y, H1, I1, ry, q1⟩ => thn (ho.run pins s1 σ H1 _ I1 q1) fun u s2 ⟨x, H2, I2, rx, a, b, k, ms, ex, ey, kt, dq, q2⟩ => ?_
  subst ex; subst ey
  obtain rfl : u = Value.ref a := rx
  obtain rfl : iv = Value.ref b := ry
  refine wpAny_notIn_heap (tupleKind_room_in1 hu) (key_ofQ I2.hok I2.kIn kt) dq.2.1 (dq.dict I2.hok I2.kIn) ?_
  rw [hasQ_at]
  refine ⟨.bl _, H2, I2.tok _, rfl, ?_⟩
  simpa using q2
/-- {} -/
def tDNewQ (w : World) : TE := fun _ H Q => ∀ p, H p = none → (p == sysModules) = false → Q (.ref p) (upd H p (.ext (dqAt w p [])))
theorem dq_stay {w : World} {a : Addr} {ms : List (List Key × Addr × Value)} {h : Heap} {P : Program} {H : Hp} (x : dqAt w a ms h) : ObjOk P w H h a (.ext (dqAt w a ms)) :=
  ⟨x, by obtain ⟨o, _, _, e, _⟩ := x; exact ⟨o, e⟩, fun h1 h2 y k => by
    obtain ⟨o, es, ep, e, r⟩ := y
    exact ⟨o, es, ep, k o e, r⟩⟩
theorem pe_dnewQ {pos : Pos} : PE X (.Dict [] [] pos) (tDNewQ X.w) := ⟨fun pins s σ H Q I h =>
  wpAny_Dict_empty ⟨.ref s.heap.objs.size, _, I.laid (a := s.heap.objs.size) (o := .ext (dqAt X.w s.heap.objs.size [])) (t' := s.toks) (fun _ _ q => Heap.get?_push_of_some _ q) (Nat.le_refl _) (dq_stay ⟨_, #[], 0, Heap.get?_push_size _ rfl, ⟨rfl, rfl, rfl⟩, rfl, fun _ => rfl, List.nodup_nil⟩), rfl,
    h _ (I.hok.fresh (Nat.le_refl _)) (beq_eq_false_iff_ne.mpr (Ne.symm (Nat.ne_of_lt I.big)))⟩⟩
/-- d[y] = v, y new -/
def sDPutQ (X : Cx) (td ty tv : TE) : TS := fun D σ H => tv σ H fun v H1 => td σ H1 fun x H2 => ty σ H2 fun y H3 => ∃ (a b : Addr) (k : List Key) (ms : List (List Key × Addr × Value)), x = .ref a ∧ y = .ref b ∧ KeyT X.K H3 b k ∧ DqAt X.K X.w H3 a ms ∧ hasQ (ms.map (·.1)) k = false ∧ ms.length < sizeLine ∧
  ∀ u, RelV v u → D.nx σ (upd H3 a (.ext (dqAt X.w a (ms ++ [(k, b, u)]))))
theorem ps_dputQ {pos pos' : Pos} (hu : X.A.units + 1 < cLine) (ho : PE X o td) (hi : PE X i ty) (hv : PE X e tv) (hs : swapsWith e (some (.Subscript o i pos')) pos.line X.env = pure false) :
    PS X (.Assign [.Subscript o i pos'] e pos) (sDPutQ X td ty tv) := by
  refine ⟨fun pins s σ H D I h => ?_⟩
  refine wpAny_Assign_Subscript (thn (hv.run pins s σ H _ I h) fun r s1 ⟨v, H1, I1, rv, q1⟩ => thn (ho.run pins s1 σ H1 _ I1 q1) fun u s2 ⟨x, H2, I2, rx, q2⟩ => thn (hi.run pins s2 σ H2 _ I2 q2) fun iv s3 ⟨y, H3, I3, ry, a, b, k, ms, ex, ey, kt, dq, nh, lt, q3⟩ => ?_) hs
  subst ex; subst ey
  obtain rfl : u = Value.ref a := rx
  obtain rfl : iv = Value.ref b := ry
  refine wpAny_setItem_heap (hsz := dq.2.2.1) (tupleKind_room_in1 hu) (key_ofQ I3.hok I3.kIn kt) (dq.dict I3.hok I3.kIn) fun h' dd' hs => ?_
  have nk : atKey ms k = none := by
    cases q : atKey ms k with
    | none => rfl
    | some z =>
      have := hasQ_at ms k
      rw [q, nh] at this
      cases this
  rw [storedH_new nk] at dd'
  obtain ⟨o, es, ep, h1, h2, h3, h4, _, h5⟩ := dd'
  exact ⟨σ, _, d_write I3 (by rw [dq.1]; exact True.intro) hs ⟨_, h1⟩ (dq_stay ⟨o, es, ep, h1, h2, h3, fun _ => h4, h5⟩), q3 _ rv⟩
/-- the keys that were walked over -/
theorem keys_walked {P : Program} {w : World} {es : Array DictEntry} {ms : List (List Key × Addr × Value)} {acc : Array Value} (he : es.toList = ms.map (entryOfKey (tupleKind (mixKind P w)))) (hn : acc.size = ms.length)
    (hi : ∀ (j : Nat) (v : Value), acc[j]? = some v → ∃ en : DictEntry, es[j]? = some en ∧ v = en.key) : acc.toList = ms.map fun m => Value.ref m.2.1 := by
  refine List.ext_getElem (by simpa using hn) fun j h1 h2 => ?_
  have h3 : j < ms.length := by simpa using h2
  have h4 : j < acc.size := by omega
  obtain ⟨en, e1, e2⟩ := hi j acc[j] (Array.getElem?_eq_getElem h4)
  have e3 : es.toList[j]? = some en := by simpa using e1
  rw [he, List.getElem?_map, List.getElem?_eq_getElem h3] at e3
  cases e3
  simp only [Array.getElem_toList, List.getElem_map]
  exact e2
/-- list(d) -/
theorem call_list_dQ (hc : X.calm = true) : CallR X (.type "list") (fun xs H Q => ∃ d ms, xs = [V.ref d] ∧ DqAt X.K X.w H d ms ∧ ∀ p, H p = none → Q (.ref p) (upd H p (.lst ((ms.map fun m => m.2.1).map V.ref)))) := fun pins s σ H xs us Q I r h => by
  obtain ⟨d, ms, e0, dq, q⟩ := h
  subst e0
  obtain ⟨u, e0, rx⟩ := r.one
  subst e0
  obtain rfl : u = Value.ref d := rx
  obtain ⟨ob, ents, ep, g1, g2, g3, g4, _, _⟩ := dq.dict I.hok I.kIn
  have size := size_of_entries g4
  refine PySem.W.kdl_call (kdl_raw dq.2.1 g2 g3) (I.ok.hd hc) g1 (by rw [size]; exact dq.2.2.1) fun h' tk acc n kp e it => ?_
  have vals : Vals ((ms.map fun m => m.2.1).map V.ref) acc.toList := by
    rw [keys_walked g4 (it.1.trans size) it.2, show (ms.map fun m => Value.ref m.2.1) = (ms.map fun m => m.2.1).map Value.ref by rw [List.map_map]; rfl]
    exact vals_refs _
  have new : ObjOk X.prog X.w (upd H s.heap.objs.size (.lst ((ms.map fun m => m.2.1).map V.ref))) h' s.heap.objs.size (.lst ((ms.map fun m => m.2.1).map V.ref)) := ⟨by simpa using dq.2.2.1, acc.toList, n, vals, Array.toArray_toList ▸ e⟩
  exact ⟨.ref _, _, Inv.laid (t' := tk) I kp (Nat.le_refl _) new, rfl, q _ (I.hok.fresh (Nat.le_refl _))⟩
end
section
variable {Γ : Gam} {X : Cx} {W : WX} {F ρ : List Addr} {H : Hp} {st : List O}
theorem RO.dq {ks : List (List Key)} {xs : List T} {a : Addr} (h : RO Γ F ρ H (.dcq ks xs) a) : ∃ (ms : List (List Key × Addr × Value)) (vs : List V), DqAt Γ.K Γ.w H a ms ∧ ms.map (·.1) = ks ∧ Vals vs (ms.map (·.2.2)) ∧ RVs Γ F ρ H xs vs := by
  obtain ⟨ms, vs, h1, h2, h3, h4, h5, h6, h7⟩ := h
  exact ⟨ms, vs, ⟨h1, h2, h3, h5⟩, h4, h6, h7⟩
def dinQ (neg : Bool) (a b : T) (st : List O) : Rs T := match keyQ a, ownQ st b with
  | some k, some (_, ks, _) => .ok (.bl (xor neg (hasQ ks k))) st
  | _, _ => .no
theorem dinQ_ok {neg : Bool} {a b : T} {y x : V} {Q : VK} {E : XK} (hK : X.K = Γ.K) (hw : X.w = Γ.w) (s : SR Γ F ρ H st) (ra : RV Γ F ρ H a y) (rb : RV Γ F ρ H b x) (h : Ran Γ F (RT Γ F) (dinQ neg a b st) ρ st H E Q) :
    ∃ (p q : Addr) (k : List Key) (ms : List (List Key × Addr × Value)), x = .ref p ∧ y = .ref q ∧ KeyT X.K H q k ∧ DqAt X.K X.w H p ms ∧ Q (.bl (xor neg (hasQ (ms.map (·.1)) k))) H := by
  unfold dinQ at h
  split at h
  · rename_i k n ks xs e1 e2
    obtain ⟨p, rfl, _, ro⟩ := ownQ_ok s.rs e2 rb
    obtain ⟨ms, vs, d, e3, _⟩ := ro.dq
    obtain ⟨q, rfl, kt⟩ := keyQ_ok e1 ra
    refine ⟨p, q, k, ms, rfl, rfl, hK ▸ kt, by rw [hK, hw]; exact d, ?_⟩
    rw [e3]
    exact Ran.done s h rfl
  · exact h.elim
theorem sE_dinQ {e d : Expr} {a b : ME} {pos : Pos} (hu : X.A.units + 1 < cLine) (ha : SE Γ X W e a) (hb : SE Γ X W d b) (hK : X.K = Γ.K := by rfl) (hw : X.w = Γ.w := by rfl) (h1 : behindInMarks .In d = false := by rfl) : SE Γ X W (.Compare e [.In] [d] pos) (mOp (dinQ false) a b) :=
  (pe_cmp (pc_dinQ hu ha hb) h1).imp fun σ H Q ⟨σp, F, ρ, st, s, re, h⟩ => ⟨σp, F, ρ, st, s, re, Ran.bind s h fun t st1 v H1 ρ1 _ s1 p1 r1 h1 => ⟨σp, F, ρ1, st1, s1, re.post s p1, Ran.bind s1 h1 fun t2 st2 v2 H2 ρ2 _ s2 p2 r2 h2 => dinQ_ok hK hw s2 (p2.rv s1.rs r1) r2 h2⟩⟩
theorem sE_dnotinQ {e d : Expr} {a b : ME} {pos : Pos} (hu : X.A.units + 1 < cLine) (ha : SE Γ X W e a) (hb : SE Γ X W d b) (hK : X.K = Γ.K := by rfl) (hw : X.w = Γ.w := by rfl) (h1 : behindInMarks .NotIn d = false := by rfl) : SE Γ X W (.Compare e [.NotIn] [d] pos) (mOp (dinQ true) a b) :=
  (pe_cmp (pc_dnotinQ hu ha hb) h1).imp fun σ H Q ⟨σp, F, ρ, st, s, re, h⟩ => ⟨σp, F, ρ, st, s, re, Ran.bind s h fun t st1 v H1 ρ1 _ s1 p1 r1 h1 => ⟨σp, F, ρ1, st1, s1, re.post s p1, Ran.bind s1 h1 fun t2 st2 v2 H2 ρ2 _ s2 p2 r2 h2 => dinQ_ok hK hw s2 (p2.rv s1.rs r1) r2 h2⟩⟩
def mD0Q : ME := fun _ st => .ok (.ref st.length) (st ++ [.dcq [] []])
theorem sE_d0Q {pos : Pos} (hw : X.w = Γ.w := by rfl) : SE Γ X W (.Dict [] [] pos) mD0Q :=
  pe_dnewQ.imp fun σ H Q ⟨σp, F, ρ, st, s, re, h⟩ p hp hs => by
    rw [hw]
    exact Ran.ends h (.alloc (o := .dcq [] []) s.rs hp ⟨[], [], upd_same, hs, Nat.zero_le _, rfl, (fun _ z => nomatch z), .nil, rfl⟩) ⟨p, rfl, by rw [← s.rs.len]; simp⟩
def dputQ (o i v : T) (st : List O) : Option (List O) := match ownQ st o, keyQ i with
  | some (n, ks, xs), some k => match hasQ ks k, decide (ks.length < 16777216) with
    | false, true => some (st.set n (.dcq (ks ++ [k]) (xs ++ [v])))
    | _, _ => none
  | _, _ => none
def mDputQ (o i v : ME) : MS := fun σ st => (v σ st).bindS σ fun y st1 => (o σ st1).bindS σ fun x st2 => (i σ st2).bindS σ fun k st3 => match dputQ x k y st3 with
  | some st4 => .ok (.nx σ) st4
  | none => .no
theorem sS_dputQ {o i e : Expr} {a b c : ME} {p2 pos : Pos} (hu : X.A.units + 1 < cLine) (ho : SE Γ X W o a) (hi : SE Γ X W i b) (he : SE Γ X W e c) (hK : X.K = Γ.K := by rfl) (hw : X.w = Γ.w := by rfl) (hs : swapsWith e (some (.Subscript o i p2)) pos.line X.env = pure false := by rfl) : SS Γ X W (.Assign [.Subscript o i p2] e pos) (mDputQ a b c) :=
  (ps_dputQ hu ho hi he hs).imp fun D σ H ⟨σp, F, ρ, st, s, re, h⟩ => ⟨σp, F, ρ, st, s, re, RanS.lift s re h fun y st1 v H1 ρ1 s1 p1 re1 r1 h1 =>
    ⟨σp, F, ρ1, st1, s1, re1, RanS.lift s1 re1 h1 fun x st2 w H2 ρ2 s2 p2 re2 r2 h2 => ⟨σp, F, ρ2, st2, s2, re2, RanS.lift s2 re2 h2 fun k st3 u H3 ρ3 s3 p3 re3 r3 h3 => by
      cases q : dputQ x k y st3 with
      | none => rw [q] at h3; exact h3.elim
      | some st4 =>
        rw [q] at h3
        unfold dputQ at q
        split at q
        · rename_i n ks xs kk e1 e2
          split at q
          · rename_i e3 e4
            cases q
            obtain ⟨p, rfl, g1, ro⟩ := ownQ_ok s3.rs e1 (p3.rv s2.rs r2)
            obtain ⟨ms, vs, d, g2, g3, g4⟩ := ro.dq
            obtain ⟨b, rfl, kt⟩ := keyQ_ok e2 r3
            have ry := p3.rv s2.rs (p2.rv s1.rs r1)
            have lt : ms.length < sizeLine := by
              have := of_decide_eq_true e4
              rw [← g2, List.length_map] at this
              rw [sizeLine_eq]; exact this
            refine ⟨p, b, kk, ms, rfl, rfl, hK ▸ kt, by rw [hK, hw]; exact d, by rw [g2]; exact e3, lt, fun uu ru => ?_⟩
            rw [hw]
            have k : Keep ρ3 H3 (upd H3 p (.ext (dqAt Γ.w p (ms ++ [(kk, b, uu)])))) := Keep.write (List.mem_of_getElem? g1) fun _ z => by rw [d.1] at z; cases z; exact id
            have po : Post Γ F ρ3 H3 ρ3 (st3.set n (.dcq (ks ++ [kk]) (xs ++ [y]))) (upd H3 p (.ext (dqAt Γ.w p (ms ++ [(kk, b, uu)])))) := by
              refine .write s3.rs g1 ⟨ms ++ [(kk, b, uu)], vs ++ [v], upd_same, d.2.1, by rw [List.length_append]; exact lt, by rw [List.map_append, g2]; rfl, fun m hm => ?_, ?_, ?_⟩
              · have kt' : KeyT Γ.K H3 m.2.1 m.1 := by
                  rcases List.mem_append.mp hm with hm | hm
                  · exact d.2.2.2 m hm
                  · rw [List.mem_singleton.mp hm]; exact kt
                exact kt'.imp (fun ⟨o, e0, z⟩ => ⟨o, e0, k _ _ z (.inr True.intro)⟩) id
              · rw [List.map_append]; exact Vals.append g3 (.cons ru .nil)
              · exact RVs.grow (fun _ z => .inl z) .refl (Keep.w k) _ _ (g4.snoc ry)
            exact h3 σ _ ρ3 po (re3.post s3 po)
          · cases q
        · cases q⟩⟩⟩
/-- list(d) of such a dict -/
def kT : Key → T
  | .inl i => .int i
  | .inr x => .str x
def listQ : MF := fun ts st => match one1 ts with
  | some t => match ownQ st t with
    | some (_, ks, _) => .ok (.lst (ks.map fun k => .tup (k.map kT))) st
    | none => .no
  | none => .no
theorem kT_ok : ∀ (ks : List Key), RVs Γ F ρ H (ks.map kT) (ks.map kV)
  | [] => rfl
  | .inl i :: ks => ⟨_, _, rfl, rfl, kT_ok ks⟩
  | .inr x :: ks => ⟨_, _, rfl, rfl, kT_ok ks⟩
theorem keyTs_ok : ∀ (ms : List (List Key × Addr × Value)), (∀ m ∈ ms, KeyT Γ.K H m.2.1 m.1) → RVs Γ F ρ H ((ms.map (·.1)).map fun k => .tup (k.map kT)) ((ms.map fun m => m.2.1).map V.ref)
  | [], _ => rfl
  | m :: ms, h => ⟨_, _, rfl, ⟨m.2.1, m.1.map kV, rfl, h m List.mem_cons_self, kT_ok _⟩, keyTs_ok ms fun z hz => h z (List.mem_cons_of_mem _ hz)⟩
theorem ok_listQ (hK : X.K = Γ.K) (hw : X.w = Γ.w) : CallOk Γ (fun xs H Q => ∃ d ms, xs = [V.ref d] ∧ DqAt X.K X.w H d ms ∧ ∀ p, H p = none → Q (.ref p) (upd H p (.lst ((ms.map fun m => m.2.1).map V.ref)))) listQ := fun F ρ st H xs ts Q E s r h => by
  unfold listQ at h
  split at h
  · rename_i t e
    obtain ⟨v, rfl, rt⟩ := one1_ok e r
    split at h
    · rename_i n ks ys e2
      obtain ⟨p, rfl, _, ro⟩ := ownQ_ok s.rs e2 rt
      obtain ⟨ms, vs, d, g2, _⟩ := ro.dq
      refine ⟨p, ms, rfl, by rw [hK, hw]; exact d, fun q hq => ?_⟩
      rw [← g2] at h
      exact Ran.ends h (.laid s.rs hq) (RV.lstNew s hq (keyTs_ok ms d.2.2.2))
    · exact h.elim
  · exact h.elim
end
end WR
namespace HT
open PySem PyProof.Rows PySem.SeqAt
open PySem.AutoSeq1 (wpAny_loadPart')
section
variable {prog : Program} {w : World} {A : Around} {E : Value → Shared → Prop} {s : Shared}
theorem rev_pick (xs : Array Value) : ((List.range xs.size).filterMap fun (m : Nat) => xs[(((xs.size : Int) - 1) + (m : Int) * (-1)).toNat]?).toArray = xs.toList.reverse.toArray := by
  have h := PySem.W.krv_pick xs
  unfold slicePick at h
  rw [PySem.W.krv_bounds] at h
  have h2 : ((sliceRange ((xs.size : Int) - 1) (-1) (-1)).filterMap (xs[·]?)).toArray = xs.toList.reverse.toArray := h
  rw [PySem.W.krv_sliceRange, List.filterMap_map] at h2
  rw [← h2]
  congr 1
  have key : ∀ (l : List Nat) (f g : Nat → Option Value), (∀ m ∈ l, f m = g m) → l.filterMap f = l.filterMap g := by
    intro l f g h
    induction l with
    | nil => rfl
    | cons a l ih =>
      rw [List.filterMap_cons, List.filterMap_cons, h a List.mem_cons_self, ih fun m hm => h m (List.mem_cons_of_mem _ hm)]
  refine key _ _ _ fun m hm => ?_
  have hm := List.mem_range.mp hm
  have e : (((xs.size : Int) - 1) + (m : Int) * (-1)).toNat = xs.size - 1 - m := by omega
  show xs[_]? = xs[xs.size - 1 - m]?
  rw [e]
theorem sliceApplied_rev {sl : Addr} {vl vu vs : Value} {n : Nat} {Q : Int × Int × Nat → Shared → Prop} (hs : s.heap.IsSliceOf sl vl vu vs) (pl : IsPart vl none) (pu : IsPart vu none) (ps : IsPart vs (some (-1)))
    (h : Q ((n : Int) - 1, -1, n) s) : wpAny (model prog w) A (Builtin.Slice.sliceApplied (.ref sl) (pure (n : Int))) Q E s := by
  obtain ⟨ob, g1, _, g2⟩ := hs
  have many : Builtin.Slice.slicePlaces ((n : Int) - 1) (-1) (-1) = n := by
    simp only [Builtin.Slice.slicePlaces, show ¬ ((-1 : Int) > 0) by omega, if_false, show (-(-1 : Int)) = 1 from rfl, Int.ediv_one]
    by_cases c : (n : Int) - 1 > -1
    · rw [if_pos c]; omega
    · rw [if_neg c]; omega
  have parts : ∀ {R : Value × Value × Value → Shared → Prop}, R (vl, vu, vs) s → wpAny (model prog w) A (Builtin.Slice.sliceFields (.ref sl)) R E s := fun hR =>
    wpAny_bind (wpAny_field g1 g2 (x := vl) rfl (wpAny_bind (wpAny_field g1 g2 (x := vu) rfl (wpAny_bind (wpAny_field g1 g2 (x := vs) rfl (wpAny_pure hR))))))
  unfold Builtin.Slice.sliceApplied
  refine wpAny_bind (parts (wpAny_bind (slicePart_ ps ?_)))
  have one : ¬ ((((some (-1 : Int)).getD 1) == 0) = true) := by decide
  rw [if_neg one]
  refine wpAny_bind (slicePart_ pl (wpAny_bind (slicePart_ pu (wpAny_bind (wpAny_pure (wpAny_pure ?_))))))
  show Q ((n : Int) - 1, -1, Builtin.Slice.slicePlaces ((n : Int) - 1) (-1) (-1)) s
  rw [many]; exact h
theorem getItem_tuple_rev {t sl : Addr} {items : Array Value} {vl vu vs : Value} {Q : Value → Shared → Prop} (ht : IsTup s.heap t items) (hs : s.heap.IsSliceOf sl vl vu vs) (pl : IsPart vl none) (pu : IsPart vu none) (ps : IsPart vs (some (-1)))
    (h : Q (.ref s.heap.objs.size) { s with heap := s.heap.push { cls := .type "tuple", data := .seq items.toList.reverse.toArray } })
    (fits : items.size ≤ sizeLine) : wpAny (model prog w) A (getItem (.ref t) (.ref sl)) Q E s := by
  have small : sizeOk (.seq items.toList.reverse.toArray) := show items.toList.reverse.toArray.size ≤ sizeLine by simpa using fits
  have isSl : s.TypeIs (.ref sl) "slice" := by
    obtain ⟨ob, g1, g2, _⟩ := hs
    exact ⟨ob, g1, g2⟩
  have whole : ¬ ((((items.size : Int) - 1) == 0 && (-1 : Int) == 1 && items.size == items.size) = true) := by simp
  unfold getItem
  try (with_reducible apply wpAny_holding)
  try apply wpAny_bind (wpAny_pure ?_)
  refine wpAny_bind (wpAny_sequenceKey ht.typeIs (by decide) (wpAny_bind (wpAny_callSpecial?_slot (name := Str.ofString "__getitem__") ht.typeIs PyProof.Rows.slot_tuple_getitem (wpAny_call_entry PyProof.Rows.slot_tuple_getitem ht.typeIs entry_tuple_getitem ?_ (args_tuple_getitem _ _)))))
  show wpAny _ _ (Builtin.Tuple.tupleItemsOf (.ref t) >>= _) _ _ _
  refine wpAny_bind (tupleItemsOf_ ht (wpAny_bind (wpAny_typeOf isSl ?_)))
  rw [if_pos (by decide)]
  refine wpAny_bind (sliceApplied_rev hs pl pu ps ?_)
  show wpAny _ _ (if (((items.size : Int) - 1) == 0 && (-1 : Int) == 1 && items.size == items.size) = true then _ else _) _ _ _
  rw [if_neg whole, rev_pick]
  have made := @wpAny_newObj_type
  first
    | exact wpAny_bind (m := Builtin.Tuple.tupleExact _) (made (wpAny_pure ⟨_, rfl, wpAny_pure h⟩) small)
    | exact wpAny_bind (wpAny_bind (m := Builtin.Tuple.tupleExact _) (wpAny_newObj_type (wpAny_pure (wpAny_pure ⟨_, rfl, wpAny_pure h⟩)) small))
    | exact wpAny_bind (m := Builtin.Tuple.tupleExact _) (wpAny_newObj_type (wpAny_pure ⟨_, rfl, wpAny_pure h⟩) small)
end
end HT
namespace L2
open PySem PySem.Spec PyProof.Rows
/-! ### t[::-1] -/
def tRevT (K : PySem.W.Frag) (te : TE) : TE := fun σ H Q => te σ H fun x H1 => ∃ a xs, x = .ref a ∧ SqT K H1 a xs ∧ ∀ p o, H1 p = none → o.dict = none → Q (.ref p) (upd H1 p (.frz o (.tup xs.reverse)))
theorem pe_revT {X : Cx} {e : Expr} {te : TE} {k : Nat} {p1 p2 p3 pos : Pos} (he : PE X e te) : PE X (.Subscript e (.Slice none none (some (.UnaryOp .USub (.Constant (.int 1) k p1) p2)) p3) pos) (tRevT X.K te) := by
  constructor
  intro pins s σ H Q I h
  have step : PO X (some (.UnaryOp .USub (.Constant (.int 1) k p1) p2)) (tPart (tUn (rU fun i => .int (-i)) (tC (.int 1)))) := po_some (pe_un un_neg pe_int)
  apply Subscript_
  refine thn (he.run pins s σ H _ I h) fun v s1 got => ?_
  obtain ⟨x, H1, I1, r1, a, xs, ex, hx, q⟩ := got
  subst ex
  obtain rfl : v = Value.ref a := r1
  apply wpAny_Slice
  refine thn (po_none.run pins s1 σ H1 (fun o H2 => o = none ∧ H2 = H1) I1 ⟨rfl, rfl⟩) fun vl s2 got => ?_
  obtain ⟨l, H2, I2, pl, el, eh⟩ := got
  subst el; subst eh
  refine thn (po_none.run pins s2 σ H2 (fun o H3 => o = none ∧ H3 = H2) I2 ⟨rfl, rfl⟩) fun vu s3 got => ?_
  obtain ⟨u, H3, I3, pu, eu, eh⟩ := got
  subst eu; subst eh
  refine thn (step.run pins s3 σ H3 (fun o H4 => o = some (-1) ∧ H4 = H3) I3 ⟨1, rfl, -1, rfl, rfl, rfl⟩) fun vs s4 got => ?_
  obtain ⟨o, H4, I4, ps, eo, eh⟩ := got
  subst eo; subst eh
  have I5 : Inv X pins σ H4 { s4 with heap := s4.heap.push { cls := .type "slice", data := .fields #[vl, vu, vs] } } := Inv.kept (t' := s4.toks) I4 fun b ob q => Heap.get?_push_of_some _ q
  obtain ⟨its, r, ht, hz⟩ := I5.tuple hx
  show wpAny (model X.prog X.w) X.A (subscriptTail e (.Slice none none (some (.UnaryOp .USub (.Constant (.int 1) k p1) p2)) p3) (.ref a) (.ref s4.heap.objs.size)) (EP X pins σ Q) X.xe _
  refine tail_any (ops := [.ref a, .ref s4.heap.objs.size]) ht.typeIs PyProof.Rows.slot_tuple_getitem.lookup (HT.getItem_tuple_rev ht (Heap.IsSliceOf.new _ vl vu vs) pl pu ps ?_ (by rw [List.size_toArray, ← r.length]; exact hz)) (by with_unfolding_all rfl)
  exact ⟨.ref _, _, WR.tup_laid (t' := s4.toks) I5 (by rw [List.length_reverse]; exact hz) r.reverse, rfl, q _ _ (I5.hok.fresh (Nat.le_refl _)) rfl⟩
/-! ### any(t), t ints -/
theorem truth_ints {prog : Program} {w : World} {A : Around} {ns : List Int} {its : List Value} (e : IntsAre its ns) :
    PySem.TruthOf prog w A (fun i v => its.toArray[i]? = some v) (fun i => (ns.map fun z => decide (z ≠ 0)).getD i false) := fun i v s Q E hv hq => by
  have hv' : its[i]? = some v := by simpa using hv
  have key : ∀ {its : List Value} {ns : List Int}, IntsAre its ns → ∀ (i : Nat) (v : Value), its[i]? = some v → ∃ z t, ns[i]? = some z ∧ v = .int z t := by
    intro its ns h
    induction h with
    | nil => intro i v e; simp at e
    | cons n t r ih =>
      intro i v e
      cases i with
      | zero => simp at e; exact ⟨_, _, rfl, e.symm⟩
      | succ i => exact ih i v (by simpa using e)
  obtain ⟨z, t, h1, rfl⟩ := key e i v hv'
  have hg : (ns.map fun z => decide (z ≠ 0)).getD i false = decide (z ≠ 0) := by rw [List.getD_eq_getElem?_getD, List.getElem?_map, h1] <;> rfl
  have hq' : Q ((ns.map fun z => decide (z ≠ 0)).getD i false) s := hq
  rw [hg] at hq'
  refine PyProof.Rows.truthy_int ?_
  have e : (z != 0) = decide (z ≠ 0) := by
    cases q : decide (z ≠ 0) with
    | true => have := of_decide_eq_true q; simp [this]
    | false => have := of_decide_eq_false q; simp at this; simp [this]
  rw [e]; exact hq'
def rAnyT (K : PySem.W.Frag) : List V → Hp → VK → Prop := fun vs H Q => ∃ (a : Addr) (ns : List Int), vs = [V.ref a] ∧ SqT K H a (ns.map V.int) ∧ Q (.bl ((ns.map fun z => decide (z ≠ 0)).any id)) H
theorem cr_anyT {X : Cx} (hc : X.calm = true) : CallR X (.builtin "any") (rAnyT X.K) := by
  intro pins s σ H vs us Q I r h
  obtain ⟨a, ns, rfl, hs, q⟩ := h
  obtain ⟨its, rv, hl, _⟩ := I.tuple hs
  rw [Vals.ref1 r]
  have hb := rv.ints
  have hlt : a < s.heap.objs.size := hl.lt
  have hT : s.heap.IsTuple a its.toArray := by
    obtain ⟨o, e, c, n, d⟩ := hl
    exact ⟨o, e, c, n, d⟩
  refine call_any_walk (wpAny_pyIter_tuple hT ?_)
  refine ⟨_, _, _, _, _, _, _, rfl, Walks.tuple (A := X.A.in1) (I.ok.hd hc) _ a (Nat.ne_of_lt hlt) its.toArray, ⟨⟨_, Heap.get?_push_size _ rfl, rfl, rfl⟩, hT.push _⟩, truth_ints hb, fun h' tk hk => ?_⟩
  refine ⟨.bl _, H, I.kept fun b o eo => hk b o (fun hmem => ?_) (Heap.get?_push_of_some _ eo), ?_, q⟩
  · rcases List.mem_cons.mp hmem with e1 | hmem
    · exact absurd (e1 ▸ Heap.lt_size eo) (Nat.lt_irrefl _)
    · cases hmem
  · show Value.bool _ = Value.bool _
    have hl2 : its.toArray.size = (ns.map fun z => decide (z ≠ 0)).length := by rw [List.size_toArray, List.length_map, ← rv.length, List.length_map]
    rw [← any_range, hl2]
end L2
namespace WR
open PySem PySem.Spec PyProof.Rows L2
/-! ### what is never reached -/
def mNoE : ME := fun _ _ => .no
def mNoS : MS := fun _ _ => .no
section
variable {Γ : Gam} {X : Cx} {W : WX}
theorem sE_no {e : Expr} : SE Γ X W e mNoE := ⟨fun pins s σ H Q I ⟨σp, F, ρ, st, sr, re, h⟩ => (show False from h).elim⟩
theorem sS_no {b : Stmt} : SS Γ X W b mNoS := ⟨fun pins s σ H D I ⟨σp, F, ρ, st, sr, re, h⟩ => (show False from h).elim⟩
theorem sSs_no {b : List Stmt} : SSs Γ X W b mNoS := ⟨fun pins s σ H D I ⟨σp, F, ρ, st, sr, re, h⟩ => (show False from h).elim⟩
theorem sT_no {e : Expr} : STt Γ X W e (fun _ _ => .no) := ⟨fun pins s σ H Q I ⟨σp, F, ρ, st, sr, re, h⟩ => (show False from h).elim⟩
/-! ### d.get(k, e) -/
def mDget2 (o k d : ME) : ME := fun σ st => (o σ st).bind fun x st1 => match dctT st1 x with
  | none => .no
  | some _ => (k σ st1).bind fun y st2 => (d σ st2).bind fun z st3 => match keyT y, dctT st3 x with
    | some kk, some (ks, vs) => match findK ks kk with
      | some i => match vs[i]? with
        | some t => .ok t st3
        | none => .no
      | none => .ok z st3
    | _, _ => .no
theorem sE_dget2 {o e f : Expr} {a b c : ME} {apos cpos : Pos} (hu : X.A.units + 1 < cLine) (ho : SE Γ X W o a) (he : SE Γ X W e b) (hf : SE Γ X W f c)
    (m1 : attributeBase o "get" X.env (eval o X.env) = eval o X.env := by rfl)
    (m2 : ((backTo cpos (starEach [e, f] X.env)).all (fun x => !x.1) && (backToKw cpos (keywordEach [] X.env)).all (fun x => x.1.isSome) && decide (([e, f] : List Expr).length + ([] : List Keyword).length + (if ([] : List Keyword).isEmpty then 0 else 1) < 30)) = true := by rfl)
    (m3 : (apos.endLine == cpos.line) = true := by rfl) (m4 : backTo cpos (starEach [e, f] X.env) = [(false, eval e X.env), (false, eval f X.env)] := by rfl) :
    SE Γ X W (.Call (.Attribute o "get" apos) [e, f] [] cpos) (mDget2 a b c) :=
  (pe_dget2 hu ho he hf ⟨m1, m2, m3, m4⟩).imp fun σ H Q ⟨σp, F, ρ, st, s, re, h⟩ => ⟨σp, F, ρ, st, s, re, Ran.bind s h fun x st1 v H1 ρ1 _ s1 p1 r1 h1 => by
    cases q : dctT st1 x with
    | none => simp only [q] at h1; exact h1.elim
    | some kv =>
      simp only [q] at h1
      obtain ⟨ks0, vs0⟩ := kv
      obtain ⟨p, kvs0, rfl, g1, _, _⟩ := dctT_ok s1.rs q r1
      refine ⟨p, rfl, .inl ⟨kvs0, g1⟩, σp, F, ρ1, st1, s1, re.post s p1, Ran.bind s1 h1 fun y st2 vy H2 ρ2 _ s2 p2 r2 h2 => ⟨σp, F, ρ2, st2, s2, (re.post s p1).post s1 p2, Ran.bind s2 h2 fun z st3 vz H3 ρ3 _ s3 p3 r3 h3 => ?_⟩⟩
      split at h3
      · rename_i kk ks vs e1 e2
        have rx := p3.rv s2.rs (p2.rv s1.rs r1)
        obtain ⟨p', kvs, e3, g4, g5, g6⟩ := dctT_ok s3.rs e2 rx
        cases e3
        have ry := keyT_ok e1 (p3.rv s2.rs r2)
        have L := lookT_ok (F := F) (ρ := ρ3) (H := H3) (k := kk) g5 g6
        split at h3
        · rename_i i e4
          split at h3
          · rename_i t e5
            obtain ⟨w, w1, w2⟩ := L.1 t (by unfold lookT; rw [e4]; exact e5)
            refine ⟨some w, .inl ⟨kvs, kk, g4, ry, w1.symm⟩, Ran.done s3 h3 w2⟩
          · exact h3.elim
        · rename_i e4
          exact ⟨none, .inl ⟨kvs, kk, g4, ry, (L.2.1 e4).symm⟩, Ran.done s3 h3 r3⟩
      · exact h3.elim⟩
/-! ### sum, any, int, is -/
def intsT : List T → Option (List Int)
  | [] => some []
  | .int i :: r => match intsT r with
    | some is => some (i :: is)
    | none => none
  | _ => none
theorem intsT_ok {F ρ : List Addr} {H : Hp} : ∀ {xs : List T} {vs : List V} {is : List Int}, intsT xs = some is → RVs Γ F ρ H xs vs → vs = is.map V.int
  | [], _, _, e, r => by cases e; exact r
  | t :: xs, _, is, e, r => by
    obtain ⟨v, vr, rfl, r1, r2⟩ := r
    unfold intsT at e
    split at e
    · rename_i heq; cases heq
    · rename_i i r' heq
      cases heq
      cases q : intsT xs with
      | none => rw [q] at e; cases e
      | some js =>
        rw [q] at e; cases e
        rw [show v = _ from r1, intsT_ok q r2]; rfl
    · cases e
def sumB : MF := fun ts st => match one1 ts with
  | some t => match lstT st t with
    | some xs => match intsT xs with
      | some is => .ok (.int is.sum) st
      | none => .no
    | none => .no
  | none => .no
theorem ok_sum : CallOk Γ (rSum Γ.K) sumB := fun F ρ st H xs ts Q E s r h => by
  unfold sumB at h
  split at h
  · rename_i t e
    obtain ⟨v, rfl, rt⟩ := one1_ok e r
    split at h
    · rename_i ys e2
      obtain ⟨p, vs, rfl, h1, h2⟩ := lstT_ok s.rs e2 rt
      split at h
      · rename_i is e3
        rw [intsT_ok e3 h2] at h1
        exact ⟨p, is, rfl, .of h1, Ran.done s h rfl⟩
      · exact h.elim
    · exact h.elim
  · exact h.elim
/-- any(t), t a tuple of ints, or a list of bools -/
def anyX : MF := fun ts st => match ts with
  | [.tup xs] => match intsT xs with
    | some is => .ok (.bl ((is.map fun z => decide (z ≠ 0)).any id)) st
    | none => .no
  | _ => anyB false ts st
def rAnyX (K : PySem.W.Frag) : List V → Hp → VK → Prop := fun xs H Q => rAnyT K xs H Q ∨ rAny K xs H Q
theorem cr_anyX (hc : X.calm = true) : CallR X (.builtin "any") (rAnyX X.K) := (cr_anyT hc).or (cr_any hc)
theorem ok_anyX : CallOk Γ (rAnyX Γ.K) anyX := fun F ρ st H xs ts Q E s r h => by
  unfold anyX at h
  split at h
  · rename_i ys
    obtain ⟨v, vr, rfl, rt, r2⟩ := r
    have e0 : vr = [] := r2
    subst e0
    split at h
    · rename_i is e3
      obtain ⟨p, vs, rfl, h1, h2⟩ := rt
      rw [intsT_ok e3 h2] at h1
      exact .inl ⟨p, is, rfl, tupK_sq h1, Ran.done s h rfl⟩
    · exact h.elim
  · exact .inr (ok_any F ρ st H xs ts Q E s r h)
/-- int(i), int(b) -/
def intX : MF := fun ts st => match ts with
  | [.bl b] => .ok (.int (if b then 1 else 0)) st
  | [.int i] => .ok (.int i) st
  | _ => .no
theorem ok_intX : CallOk Γ (fun xs H Q => (∃ i, xs = [.int i] ∧ Q (.int i) H) ∨ ∃ k, xs = [.bl k] ∧ Q (.int (if k then 1 else 0)) H) intX := fun F ρ st H xs ts Q E s r h => by
  unfold intX at h
  split at h
  · rename_i b
    obtain ⟨v, vr, rfl, rt, r2⟩ := r
    have e0 : vr = [] := r2
    subst e0
    rw [show v = _ from rt]
    exact .inr ⟨b, rfl, Ran.done s h rfl⟩
  · rename_i b
    obtain ⟨v, vr, rfl, rt, r2⟩ := r
    have e0 : vr = [] := r2
    subst e0
    rw [show v = _ from rt]
    exact .inl ⟨b, rfl, Ran.done s h rfl⟩
  · exact h.elim
/-- b is True -/
def isBT (k : Bool) (a b : T) (st : List O) : Rs T := match a, b with
  | .bl x, .bl y => .ok (.bl (if k then decide (x = y) else !decide (x = y))) st
  | _, _ => .no
theorem ok_isBl : OpOk Γ rIsB (isBT true) := fun F ρ st H x y a b Q E s ra rb h => by
  unfold isBT at h
  split at h
  · rw [show x = _ from ra, show y = _ from rb]
    exact ⟨_, _, rfl, rfl, Ran.done s h rfl⟩
  · exact h.elim
theorem ok_notBl : OpOk Γ rNotB (isBT false) := fun F ρ st H x y a b Q E s ra rb h => by
  unfold isBT at h
  split at h
  · rw [show x = _ from ra, show y = _ from rb]
    exact ⟨_, _, rfl, rfl, Ran.done s h rfl⟩
  · exact h.elim
/-! ### t[::-1] -/
def mRevT (a : ME) : ME := fun σ st => (a σ st).bind fun x st1 => match x with
  | .tup xs => .ok (.tup xs.reverse) st1
  | _ => .no
theorem RVs.reverse {F ρ : List Addr} {H : Hp} : ∀ {xs : List T} {vs : List V}, RVs Γ F ρ H xs vs → RVs Γ F ρ H xs.reverse vs.reverse
  | [], _, r => by rw [show _ = [] from r]; exact rfl
  | x :: xs, _, r => by
    obtain ⟨v, vr, rfl, r1, r2⟩ := r
    rw [List.reverse_cons, List.reverse_cons]
    exact (RVs.reverse r2).snoc r1
theorem sE_revT {e : Expr} {a : ME} {k : Nat} {p1 p2 p3 pos : Pos} (ha : SE Γ X W e a) (hK : X.K = Γ.K := by rfl) : SE Γ X W (.Subscript e (.Slice none none (some (.UnaryOp .USub (.Constant (.int 1) k p1) p2)) p3) pos) (mRevT a) :=
  (pe_revT ha).imp fun σ H Q ⟨σp, F, ρ, st, s, re, h⟩ => ⟨σp, F, ρ, st, s, re, Ran.bind s h fun x st1 v H1 ρ1 _ s1 p1 r1 h1 => by
    cases x with
    | tup xs =>
      obtain ⟨a, vs, rfl, g1, g2⟩ := r1
      exact ⟨a, vs, rfl, by rw [hK]; exact tupK_sq g1, fun q ob hq ho => Ran.ends h1 (.laid s1.rs hq) (RV.tupNew s1 hq ho g2.reverse)⟩
    | _ => exact h1.elim⟩
/-! ### defs as values -/
theorem sE_fnv (n : Nat) {x : Str} {f : Addr} {pos : Pos} (hm : X.mg x = some (.ref f)) (hf : Γ.fad n = f) (hg : Gl X x := by rfl) (hd : (x == ("__debug__" : Str)) = false := by decide) : SE Γ X W (.Name x pos) (mC (.fn n)) :=
  sE_glob (v := .ref f) hm rfl (fun F ρ H st _ => by rw [← hf]; exact rfl) hg hd
/-- v(e, ..), v one of the defs -/
def mCallF (i : Nat) (tbl : Nat → Option (Nat × MF)) (args : M (List T)) : ME := fun σ st => (mVar i σ st).bind fun f st0 => match f with
  | .fn j => match tbl j with
    | some (n, m) => (args σ st0).bind fun ts st1 => match Nat.beq ts.length n with
      | true => iso m ts st1
      | false => .no
    | none => .no
  | _ => .no
theorem sE_callF (i : Nat) {kx : Nat} {tbl : Nat → Option (Nat × MF)} {x : Str} {p pos : Pos} {e : Expr} {es : List Expr} {ma : M (List T)}
    (hT : ∀ j n m, tbl j = some (n, m) → ∃ k ps, k ≤ kx ∧ Kept X.prog X.w X.K X.mg X.base Γ k (Γ.fad j) ps n m) (tk : Takes X W) (hr : Room kx X.A) (ha : SA Γ X W (e :: es) ma)
    (hN : X.N[i]? = some x := by rfl) (hv : Vis X.env.scope x := by first | exact Or.inl rfl | exact Or.inr (Or.inl rfl) | exact Or.inr (Or.inr rfl)) (hd : (x == ("__debug__" : Str)) = false := by decide) (hcd : (x == ("__classdict__" : Str)) = false := by decide)
    (he : starEach (e :: es) X.env = (false, eval e X.env) :: starEach es X.env := by rfl) (hpl : (backTo pos (starEach es X.env)).any (·.1) = false := by rfl) : SE Γ X W (.Call (.Name x p) (e :: es) [] pos) (mCallF i tbl ma) := by
  refine ⟨fun pins s σ H Q I pre => ?_⟩
  obtain ⟨σp, F, ρ, st, sr, re, h⟩ := pre
  have nm := (sE_var (Γ := Γ) (W := W) i (pos := p) hN hv hd hcd).run pins s σ H (fun v H1 => ∃ (t : T) (ρ1 : List Addr) (st1 : List O), Post Γ F ρ H ρ1 st1 H1 ∧ RV Γ F ρ1 H1 t v ∧ Ran Γ F (RT Γ F) ((fun f st0 => match f with
  | .fn j => match tbl j with
    | some (n, m) => (ma σp st0).bind fun ts st1 => match Nat.beq ts.length n with
      | true => iso m ts st1
      | false => .no
    | none => .no
  | _ => .no : T → List O → Rs T) t st1) ρ1 st1 H1 (fun cls d H' => W cls d σ H') Q) I
    ⟨σp, F, ρ, st, sr, re, Ran.bind sr h fun t st1 v H1 ρ1 _ s1 p1 r1 h1 => ⟨t, ρ1, st1, p1, r1, h1⟩⟩
  refine wpAny_Call_Name_kw (thn nm fun u s1 got => ?_)
  obtain ⟨v, H1, I1, rel, t, ρ1, st1, po, rv, hc⟩ := got
  have sr1 := sr.post po
  have re1 := re.post sr po
  cases t with
  | fn j =>
    have ev : v = .ref (Γ.fad j) := rv
    subst ev
    obtain rfl : u = Value.ref (Γ.fad j) := rel
    simp only at hc
    cases q : tbl j with
    | none => rw [q] at hc; exact hc.elim
    | some nm =>
      obtain ⟨n, m⟩ := nm
      rw [q] at hc
      obtain ⟨k, ps, hk, ⟨fd, G, b⟩, kp⟩ := hT j n m q
      refine PySem.W.callWith_K (h₀ := X.base) I1.ok.mod.kin kp (thn (ha.run pos pins s1 σ H1 (fun vs H2 => spOf Γ n m vs H2 Q (WE W σ)) I1 ⟨σp, F, ρ1, st1, sr1, re1, Ran.bind sr1 hc fun ts st2 vs H2 ρ2 _ s2 p2 r2 h2 => ?_⟩) fun us s2 ⟨vs, H2, I2, r, z⟩ => ⟨I2.kIn, ?_⟩) he hpl
      · cases q2 : Nat.beq ts.length n with
        | false => rw [q2] at h2; exact h2.elim
        | true => rw [q2] at h2; exact iso_sp s2 r2 (Nat.eq_of_beq_eq_true q2) h2
      · exact run_fnSD G (hr.mono hk) b .nil (passAt tk σ) I2 r (by rw [List.append_nil]; exact z)
  | _ => exact hc.elim
end
/-! ### defs that call themselves -/
theorem Kept.none {P : Program} {w : World} {K : PySem.W.Frag} {mg : Str → Option Value} {base : Heap} {Γ : Gam} {k n : Nat} {f : Addr} {fd : FuncData} {x qual : Str} {params : Arguments} {body : List Stmt} {scope : Scope} {ps : List Str} (F : FunD K x qual params body scope [] [] f fd)
    (hbd : ∀ (kV doc pm : Value) (an : Option Addr) (cdv ct : Value) (us : List Value), us.length = ps.length → bindArgs (PySem.W.fnOf x qual params body scope .none kV doc pm an cdv ct) ⟨us, []⟩ = pure (ps.zip us)) :
    Kept P w K mg base Γ k f ps n (fun _ _ => .no) :=
  ⟨⟨fd, ⟨fun vs H Q E ⟨ts, F, ρ, st, s, r, l, h⟩ => (show False from h).elim, fun A outer s H args us vs Q E _ _ _ _ ⟨ts, F, ρ, st, _, _, _, h⟩ => (show False from h).elim⟩, F.bindsN hbd⟩, F.kp⟩
/-- a def some of whose parameters have defaults, all of them handed in -/
theorem Kept.mkD {P : Program} {w : World} {K : PySem.W.Frag} {mg : Str → Option Value} {base : Heap} {Γ : Gam} {k n : Nat} {f : Addr} {fd : FuncData} {x qual : Str} {params : Arguments} {body : List Stmt} {scope : Scope} {N ps : List Str} {b : MS} {dvs : List V} (F : FunD K x qual params body scope dvs [] f fd) (hd : dvs ≠ []) (S : FnScope N ps scope) (hn : ps.length = n)
    (hbd : ∀ (T : Addr) (kV doc pm : Value) (an : Option Addr) (cdv ct : Value) (us its : List Value), us.length = ps.length → its.length = dvs.length →
      ∃ k, bindArgs (PySem.W.fnOf x qual params body scope (.ref T) kV doc pm an cdv ct) ⟨us, []⟩ = seqItems? (.ref T) >>= k ∧ k (some its.toArray) = pure (ps.zip (us ++ its.drop dvs.length)))
    (hb : ∀ (cdv : Value) (A : Around) (outer : List Env) (s : Shared) (H : Hp) (E : XK), Room k (A.deeper (envOfC qual scope s.heap.objs.size f cdv)) → SSs Γ (cxOf (L2.CX P w) P w K mg base N qual scope f cdv A outer s H E) (fun cls d _ H => E cls d H) body b) :
    Kept P w K mg base Γ (k + 1) f ps n (mDef N.length b) := by
  obtain ⟨ds, r, bd⟩ := FunD.binds1 (ps := ps) F ps.length dvs.length hd (by omega) hbd
  rw [List.drop_length] at r
  cases r
  exact ⟨⟨fd, fn_ok F S hn hb, bd⟩, F.kp⟩
end WR
namespace WR
open PySem PySem.Spec PyProof.Rows L2 LamX
/-! ### a lambda is handed on to a second def -/
theorem un_two {fs : List Addr} {L : Addr} {H H1 H2 : Hp} {h h1 h2 : Heap} (a : Un fs [] H H1 h h1) (b : Un (L :: fs) [] H1 H2 h1 h2) (hL : h.get? L = none) : Un fs [] H H2 h h2 where
  keep := fun c ob q n hc hx => b.keep c ob (a.keep c ob q n hc hx) (a.free c ob q n hx) (fun z => (List.mem_cons.mp z).elim (fun e => by subst e; rw [hL] at q; cases q) hc) hx
  slot := fun c ob q n hc hx => by
    obtain ⟨sl, e1⟩ := a.slot c ob q n hc hx
    obtain ⟨sl', e2⟩ := b.slot c _ e1 (a.free c ob q n hx) (List.mem_cons_of_mem _ hc) hx
    exact ⟨sl', e2⟩
  free := fun c ob q n hx => by
    obtain ⟨o', e1⟩ := a.there c ob q hx
    exact b.free c o' e1 (a.free c ob q n hx) hx
  there := fun c ob q hx => by
    obtain ⟨o', e1⟩ := a.there c ob q hx
    exact b.there c o' e1 hx
  tups := fun c xs e => b.tups c xs (a.tups c xs e)
  frzs := fun c o u e => b.frzs c o u (a.frzs c o u e)
  tbls := fun c ps e => by
    obtain ⟨m1, e1⟩ := a.tbls c ps e
    obtain ⟨m2, e2⟩ := b.tbls c _ e1
    exact ⟨m1 ++ m2, by rw [e2, Array.append_assoc]⟩
/-- what is tracked at f is called by the name a, further in -/
theorem pe_actG {CXg : CXT} {Eg : XK} {Ng : List Str} {qg : Str} {sg : Scope} {g f c' : Addr} {cdg : Value} {D : LamD} {k i : Nat} {a : Str} {pn : List (Addr × Obj)} {xe : Value → Shared → Prop} {W : WX} {E : XK} {tb : TE} {p1 p2 : Pos} {X : Cx} {pins : List (Addr × Obj)} {σ : L2.St} {H H8 : Hp} {s s8 : Shared} {A8 : Around} {out8 : List Env}
    (J0 : Inv X pins σ H s) (L : LamS X.env.scope D.2.2)
    (bind0 : ∀ (pm ctv : Value), bindArgs (PySem.W.kla_fn "<lambda>" (X.env.qual ++ "<lambda>") D.1 D.2.1 D.2.2 (cloFrom X.env.cells D.2.2.names []) pm (.ref c') ctv) ⟨[], []⟩ = pure [])
    (takes : Takes ((cxOf CXg X.prog X.w X.K X.mg X.base Ng qg sg g cdg A8 out8 s8 H8 Eg).tr pn xe) W) (le : ∀ cls d σ' H', E cls d H' → W cls d σ' H') (room : Room (k + 1) (A8.deeper (envOfC qg sg s8.heap.objs.size g cdg)))
    (inner : ∀ (A : Around) (outer : List Env) (s : Shared) (H : Hp), Room k (A.deeper (lamEnv X D.2.2 s.heap.objs.size f c')) → PE (lamCx X A outer s H E D.2.2 f c') D.2.1 tb)
    (hun : ∀ (H9 : Hp) (s9 : Shared), Un (frs out8) [] H8 H9 s8.heap s9.heap → Un (frs X.stack) [] H H9 s.heap s9.heap)
    (at_ : Ng[i]? = some a) (vis : Vis sg a) (d1 : (a == ("__debug__" : Str)) = false) (d2 : (a == ("__classdict__" : Str)) = false) :
    PE ((cxOf CXg X.prog X.w X.K X.mg X.base Ng qg sg g cdg A8 out8 s8 H8 Eg).tr pn xe) (.Call (.Name a p1) [] [] p2)
      (fun σ9 H9 Q9 => σ9[i]? = some (some (.ref f)) ∧ H9 c' = some (CodeO c' (X.env.qual ++ "<lambda>")) ∧ H9 f = some (.ext (lamAt X D f c')) ∧ tb σ H9 Q9) := by
  refine ⟨fun pins9 s9 σ9 H9 Q9 I9 pre => ?_⟩
  obtain ⟨here, codeH, lamH, told⟩ := pre
  have nm := (pe_var (pos := p1) (i := i) at_ vis d1 d2).run pins9 s9 σ9 H9 (fun v H1 => v = .ref f ∧ H1 = H9) I9 ⟨.ref f, here, rfl, rfl⟩
  refine wpAny_Call_Name_kw (thn nm fun u s1 got => ?_)
  obtain ⟨v, H1, I1, rel, ev, eH⟩ := got
  subst ev
  subst eH
  obtain rfl : u = Value.ref f := rel
  obtain ⟨⟨pm, ctv, ofl⟩, _, _⟩ := I1.hok f _ lamH
  obtain ⟨⟨oc, vs, t, o1, o2, o3⟩, _, _⟩ := I1.hok c' _ codeH
  refine PySem.W.callWith_F0
    ⟨_, _, _, _, ofl⟩ ?_
  have base1 : Un (frs X.stack) [] H H1 s.heap s1.heap := hun H1 s1 I1.base
  have goes : codeAny (model X.prog X.w) (A8.deeper (envOfC qg sg s8.heap.objs.size g cdg)) (.call (.ref f) ⟨[], []⟩)
      (CR (L2.CX X.prog X.w) (envOfC qg sg s8.heap.objs.size g cdg :: out8) X.prog X.w H1 s1 Q9 E) s1 := by
    refine PySem.W.kla_callFunE room.depth ofl rfl L.co L.gen rfl
      ⟨c', oc, vs, t, rfl, o1, o2, o3⟩ ?_
    rw [bind0 pm ctv]
    refine wpAny_pure (wpAny_newFunctionEnv (fun y hy => (L.own y hy).2) (fun y hy => absurd hy (by simp))
      (fun h9 ns9 sb9 => ⟨I1.nolimit.fresh _ sb9, ?_⟩) L.kind)
    show codeAny _ _ (.expr D.2.1 (lamEnv X D.2.2 s1.heap.objs.size f c')) _ _
    have kept9 : ∀ b o, s1.heap.get? b = some o → h9.get? b = some o := fun b o e9 =>
      sb9.extBut b o (Nat.ne_of_lt (Heap.lt_size e9)) (Heap.get?_push_of_some _ e9)
    have J9 : Inv (lamCx X (A8.deeper (envOfC qg sg s8.heap.objs.size g cdg)) (envOfC qg sg s8.heap.objs.size g cdg :: out8) s1 H1 E D.2.2 f c') [] σ H1
        { s1 with heap := h9, toks := s1.toks + ([] : List (Str × Value)).length } := lam_start2 J0 L I1.env0 room.hd base1 ns9 kept9
    have runs := (inner _ (envOfC qg sg s8.heap.objs.size g cdg :: out8) s1 H1 (room.deeper _)).run [] _ _ H1 Q9 J9 told
    refine PySem.W.kla_codeExpr (wpAny_mono runs (fun v s' z => ?_) fun e s' z => z)
    obtain ⟨w', H', K9, rv, q⟩ := z
    exact ⟨w', H', K9.os, K9.bare, K9.base, K9.hok, rv, q⟩
  have ps : Passes (L2.CX X.prog X.w) ((cxOf CXg X.prog X.w X.K X.mg X.base Ng qg sg g cdg A8 out8 s8 H8 Eg).tr pn xe) E := passes_call takes le
  refine wpAny_call (codeAny_mono goes fun r s' z => ?_)
  cases r with
  | error e => exact ps pins9 σ9 H1 s1 e s' I1 z
  | ok fl => cases fl with
    | ret u => exact I1.after z
    | next => exact z.elim
    | brk => exact z.elim
    | cont => exact z.elim
/-- the rest of a def behind its first statement y = g(a) -/
def restK (N iy : Nat) (rest : MS) (t t2 : T) (st : List O) : Rs T := match rest ((([t].map some ++ List.replicate (N - 1) none) : Ev).set iy (some t2)) st with
  | .ok (.rt v) st1 => .ok v st1
  | .ok (.nx _) st1 => .ok .non st1
  | .exc e _ st1 => .exc e st1
  | _ => .no
theorem restK_run {Γ : Gam} {F ρ : List Addr} {H : Hp} {st : List O} {N iy : Nat} {rest : MS} {t t2 : T} {E : XK} {Q : VK} (h : Ran Γ F (RT Γ F) (restK N iy rest t t2 st) ρ st H E Q) :
    RanS Γ F (rest ((([t].map some ++ List.replicate (N - 1) none) : Ev).set iy (some t2)) st) ρ st H (fun cls d _ H => E cls d H) { nx := fun _ H' => Q .non H', rt := Q } := by
  unfold restK at h
  cases q : rest ((([t].map some ++ List.replicate (N - 1) none) : Ev).set iy (some t2)) st with
  | no => rw [q] at h; exact h
  | exc e σ2 st2 => rw [q] at h; exact fun cls d σ' H' ρ' p rx _ => h cls d H' ρ' p rx
  | ok f st2 =>
    rw [q] at h
    cases f with
    | nx σ2 => exact fun σ' H' ρ' p _ => h .non H' ρ' p rfl
    | rt t => exact h
    | bk σ2 => exact h.elim
    | ct σ2 => exact h.elim
def mWordV (sub : Nat → Option Bool) (tbl : Nat → ME) (N iy : Nat) (rest : MS) (a : ME) : ME := fun σ st => (a σ st).bind fun t st1 => (caughtK sub tbl σ t st1).bind fun t2 st2 => restK N iy rest t t2 st2
/-- x(e): x's def begins y = g(a), g a def that tells what was raised, e one of the lambdas -/
theorem sE_wordV {Γ : Gam} {X : Cx} {W : WX} {sub : Nat → Option Bool} {tbl : Nat → ME} {LT : Nat → Option LamD} {ma : ME} {ea : Expr} {x y b xg a : Str} {f2 g CS : Addr} {kk iy : Nat} {pg p2g : Arguments} {bg rest : List Stmt} {sg s2g : Scope} {fd fd2 : FuncData} {Ng N2 : List Str} {p pos q1 q2 q3 q4 q5 : Pos} {mrest : MS}
    (he : SE Γ X W ea ma) (hΓ : ∀ j f c', Γ.lam j f c' = lamOf X LT j f c') (hQ : Γ.lamQ = X.env.qual ++ "<lambda>") (hT : ∀ j D, LT j = some D → LamOk Γ X kk D (tbl j)) (tk : Takes X W)
    (hm2 : X.mg x = some (.ref f2)) (hk2 : PySem.W.keepIn X.K (.ref f2) = true) (Fd2 : FunD X.K x x p2g (.Assign [.Name y q1] (.Call (.Name xg q2) [.Name b q3] [] q4) q5 :: rest) s2g [] [] f2 fd2) (hb2 : L2.Binds X.K fd2 [b] []) (S2 : FnScope N2 [b] s2g) (hN0 : N2[0]? = some b) (hNy : N2[iy]? = some y) (hy : s2g.names.lookup y = some .local) (hvb : Vis s2g b) (hNl : N2.length = 1 + (N2.length - 1))
    (hrest : ∀ (cdv : Value) (A : Around) (outer : List Env) (s : Shared) (H : Hp) (E : XK), Room (kk + 2) (A.deeper (envOfC x s2g s.heap.objs.size f2 cdv)) → SSs Γ (cxOf (L2.CX X.prog X.w) X.prog X.w X.K X.mg X.base N2 x s2g f2 cdv A outer s H E) (fun cls d _ H => E cls d H) rest mrest)
    (hm : X.mg xg = some (.ref g)) (hk : PySem.W.keepIn X.K (.ref g) = true) (Fd : FunD X.K xg xg pg bg sg [] [] g fd) (hb : L2.Binds X.K fd [a] []) (Sg : FnScope Ng [a] sg) (hNg : Ng[0]? = some a) (hva : Vis sg a)
    (hG : ∀ (cdv2 : Value) (s : Shared) (H : Hp) (E : XK) cdv, GivesTo (cxOf (L2.CX X.prog X.w) X.prog X.w X.K X.mg X.base N2 x s2g f2 cdv2 X.A X.stack s H E) Ng xg sg g cdv bg a (X.env.qual ++ "<lambda>") (TCaught X.K CS))
    (hr : Room (kk + 3) X.A) (hsub : ∀ j, sub j = some true → PySem.W.exmOne X.K (.ref (Γ.cad j)) (.ref CS) = some true)
    (hgg : ∀ (cdv2 : Value) (s : Shared) (H : Hp) (E : XK), Gl (cxOf (L2.CX X.prog X.w) X.prog X.w X.K X.mg X.base N2 x s2g f2 cdv2 X.A X.stack s H E) xg := by intros; rfl)
    (hsw : ∀ (Z : Cx), swapsWith (.Call (.Name xg q2) [.Name b q3] [] q4) (some (.Name y q1)) q5.line Z.env = pure false := by intros; rfl)
    (hg : Gl X x := by rfl) (hdb : (x == ("__debug__" : Str)) = false := by decide) (hdg : (xg == ("__debug__" : Str)) = false := by decide) (hd : (a == ("__debug__" : Str)) = false := by decide) (hcd : (a == ("__classdict__" : Str)) = false := by decide) (hd2 : (b == ("__debug__" : Str)) = false := by decide) (hcd2 : (b == ("__classdict__" : Str)) = false := by decide)
    (he0 : starEach [ea] X.env = (false, eval ea X.env) :: starEach [] X.env := by rfl) (hpl : (backTo pos (starEach [] X.env)).any (·.1) = false := by rfl) : SE Γ X W (.Call (.Name x p) [ea] [] pos) (mWordV sub tbl N2.length iy mrest ma) := by
  refine ⟨fun pins s0 σ H Q I pre => ?_⟩
  obtain ⟨σp, F, ρ, st, sr, re, h⟩ := pre
  obtain ⟨oc, od, dV, kV, doc, pm0, an, cdv, ct, osl, rfl, lk, hcg, _, _⟩ := Fd.ex
  obtain ⟨oc2, od2, dV2, kV2, doc2, pm2, an2, cdv2, ct2, osl2, rfl, lk2, hcg2, _, _⟩ := Fd2.ex
  refine wpAny_Call_Name_kw (ld_glob I hg hm2 ?_ hdb)
  refine PySem.W.callWith_K (h₀ := X.base) I.ok.mod.kin hk2 ?_ he0 hpl
  have arg := he.run pins s0 σ H (fun v H1 => ∃ (t : T) (ρ1 : List Addr) (st1 : List O), Post Γ F ρ H ρ1 st1 H1 ∧ RV Γ F ρ1 H1 t v ∧ Ran Γ F (RT Γ F) ((caughtK sub tbl σp t st1).bind fun t2 st2 => restK N2.length iy mrest t t2 st2) ρ1 st1 H1 (fun cls d H' => W cls d σ H') Q) I
    ⟨σp, F, ρ, st, sr, re, Ran.bind sr h fun t st1 v H1 ρ1 _ s1 p1 r1 h1 => ⟨t, ρ1, st1, p1, r1, h1⟩⟩
  rw [he0]
  show wpAny _ _ (spliced ((false, eval ea X.env) :: backTo pos (starEach [] X.env))) _ _ s0
  refine Calls.spliced_cons (thn arg fun u s1 got => ?_)
  obtain ⟨v, H1, I1, rel, t, ρ1, st1, po, rv, hc⟩ := got
  have isL : ∃ j, t = .lam j := by
    unfold caughtK at hc
    cases t with
    | lam j => exact ⟨j, rfl⟩
    | _ => exact hc.elim
  obtain ⟨j, rfl⟩ := isL
  have rv0 := rv
  obtain ⟨f, c', rfl, n1, n2, hF, n3, n4, hC⟩ := rv
  obtain rfl : u = Value.ref f := rel
  have sr1 := sr.post po
  rw [hΓ] at hF
  unfold lamOf at hF
  cases q0 : LT j with
  | none =>
    rw [q0] at hF
    obtain ⟨bad, _, _⟩ := I1.hok f _ hF
    exact bad.elim
  | some D =>
    rw [q0] at hF
    have T1 := hT j D q0
    rw [hQ] at hC
    refine Calls.spliced_nil ⟨I1.kIn, ?_⟩
    refine wpAny_call (codeAny_mono (run_ofS (CX := L2.CX X.prog X.w) (N := N2) (ps := [b]) (us := [.ref f]) (vs := [.ref f]) (Q := Q) (E := WE W σ) lk2 hcg2 S2 (k := kk + 2) hr I1.env0 (hb2 s1 [.ref f] I1.kIn rfl) (.cons rfl .nil) rfl fun hrY => ?_) fun r s2 hq => ?_)
    · refine ⟨_, pss_cons (ps_set (i := iy) (te := fun σ9 H9 Q9 => σ9 = L2.start N2 [.ref f] ∧ H9 = H1 ∧ TCaught X.K CS (fun E H' Q' => H' f = some (.ext (lamAt X D f c')) ∧ tEv Γ (tbl j) (WF E) σ H' Q') H1 Q9) S2.nd hNy (.inl hy) ⟨fun pins9 s9 σ9 H9 Q9 I9 pre9 => ?_⟩ (hs := hsw _) (hf := .inl rfl)) (hrest cdv2 X.A X.stack s1 H1 (WE W σ) hrY), ?_⟩
      · obtain ⟨e1, e2, told⟩ := pre9
        subst e1
        subst e2
        refine wpAny_Call_Name_kw (ld_glob I9 (hgg cdv2 s1 H9 (WE W σ)) hm ?_ hdg)
        refine PySem.W.callWith_K (h₀ := X.base) I9.ok.mod.kin hk ?_ (by rfl) (by rfl)
        have nm := (pe_var (pos := q3) (i := 0) hN0 hvb hd2 hcd2).run pins9 s9 (L2.start N2 [.ref f]) H9 (fun v H1 => v = .ref f ∧ H1 = H9) I9 ⟨.ref f, rfl, rfl, rfl⟩
        show wpAny _ _ (spliced ((false, eval (.Name b q3) _) :: backTo q4 (starEach [] _))) _ _ s9
        refine Calls.spliced_cons (thn nm fun u s10 got => ?_)
        obtain ⟨v, H10, I10, rel, ev, eH⟩ := got
        subst ev
        subst eH
        obtain rfl : u = Value.ref f := rel
        refine Calls.spliced_nil ⟨I10.kIn, ?_⟩
        refine wpAny_call (codeAny_mono (run_ofS (CX := C8.CX0) (N := Ng) (ps := [a]) (us := [.ref f]) (vs := [.ref f]) (Q := Q9) (E := C8.E0) lk hcg Sg (k := kk + 1) hrY I10.env0 (hb s10 [.ref f] I10.kIn rfl) (.cons rfl .nil) rfl fun hr2 => ?_) fun r s2 hq => ?_)
        · have gone : s1.heap.get? s1.heap.objs.size = none := by
            cases q : s1.heap.get? s1.heap.objs.size with
            | none => rfl
            | some o => exact absurd (Heap.lt_size q) (Nat.lt_irrefl _)
          have unY : Un (frs X.stack) [] H10 H10 s1.heap s10.heap := I10.base
          have act : ∀ (W9 : WX) (pn : List (Addr × Obj)) (xe : Value → Shared → Prop) (E : XK) (p1 p2 : Pos), Takes ((cxOf C8.CX0 X.prog X.w X.K X.mg X.base Ng xg sg g cdv (X.A.deeper (envOfC x s2g s1.heap.objs.size f2 cdv2)) (envOfC x s2g s1.heap.objs.size f2 cdv2 :: X.stack) s10 H10 C8.E0).tr pn xe) W9 → (∀ cls d σ' H', E cls d H' → W9 cls d σ' H') →
              PE ((cxOf C8.CX0 X.prog X.w X.K X.mg X.base Ng xg sg g cdv (X.A.deeper (envOfC x s2g s1.heap.objs.size f2 cdv2)) (envOfC x s2g s1.heap.objs.size f2 cdv2 :: X.stack) s10 H10 C8.E0).tr pn xe) (.Call (.Name a p1) [] [] p2)
                (fun σZ HZ Q => σZ[0]? = some (some (.ref f)) ∧ HZ c' = some (CodeO c' (X.env.qual ++ "<lambda>")) ∧ HZ f = some (.ext (lamAt X D f c')) ∧ tEv Γ (tbl j) (WF E) σ HZ Q) := fun W9 pn xe E p1 p2 tk hW =>
            pe_actG (CXg := C8.CX0) (Eg := C8.E0) (D := D) (i := 0) (A8 := X.A.deeper (envOfC x s2g s1.heap.objs.size f2 cdv2)) (out8 := envOfC x s2g s1.heap.objs.size f2 cdv2 :: X.stack) (s8 := s10) (H8 := H10) (tb := tEv Γ (tbl j) (WF E)) I1 T1.l (fun pm ctv => T1.b _ _ _ _ _) tk hW hr2 (fun A outer s H hr3 => T1.m A outer s H E f c' hr3)
              (fun H9 s9 un => un_two unY un gone) hNg hva hd hcd
          obtain ⟨t1, ht1, hq1⟩ := hG cdv2 s1 H10 (WE W σ) cdv f c' s10 H10 Q9 (fun E H' Q' => H' f = some (.ext (lamAt X D f c')) ∧ tEv Γ (tbl j) (WF E) σ H' Q') act hC told
          exact ⟨t1, ht1.nox, hq1⟩
        · cases r with
          | error e => exact (show False from hq).elim
          | ok fl => cases fl with
            | ret u => exact I10.after hq
            | next => exact False.elim hq
            | brk => exact False.elim hq
            | cont => exact False.elim hq
      · refine ⟨rfl, rfl, ?_⟩
        have hc2 : Ran Γ F (RT Γ F) (caughtK sub tbl σp (.lam j) st1) ρ1 st1 H1 (WE W σ) (fun v H' => tSv Γ mrest (fun cls d _ H => WE W σ cls d H) { nx := fun _ H' => Q .non H', rt := Q } ((L2.start N2 [.ref f]).set iy (some v)) H') := Ran.bind sr1 hc fun t2 st2 v H2 ρ2 _ s2 p2 r2 h2 => by
          have rs := RVs.one (p2.rv sr1.rs rv0)
          have r0 := re_start (N := N2) rs
          exact ⟨_, F, ρ2, st2, s2, r0.set r2, restK_run h2⟩
        simp only [caughtK] at hc2
        refine ⟨hF, σp, F, ρ1, st1, sr1, re.post sr po, ?_⟩
        cases q3 : tbl j σp st1 with
        | no => rw [q3] at hc2; exact hc2
        | ok t st2 =>
          rw [q3] at hc2
          exact fun v H2 ρ2 p2 _ => hc2 .non H2 ρ2 p2 rfl
        | exc e st2 =>
          rw [q3] at hc2
          simp only at hc2
          split at hc2
          · rename_i e1
            intro cls d H2 ρ2 p2 rx
            obtain ⟨z1, z2⟩ := rx
            subst z1
            refine ⟨hsub _ e1, fun a9 ha => ?_⟩
            have s2 := sr1.post p2
            have p3 : Post Γ F ρ2 H2 ρ2 st2 (upd H2 a9 (ExV (.ref (Γ.cad e.c)) d a9)) := .laid s2.rs ha
            refine hc2 (.ref a9) _ ρ2 (p2.trans sr1.rs p3) ⟨a9, d, rfl, (s2.fresh ha).1, (s2.fresh ha).2, upd_same, ?_⟩
            rcases z2 with ⟨y1, y2, y3⟩ | ⟨dd, fvs, y1, y2, y3, y4, y5, y6⟩
            · exact .inl ⟨y1, y2, p3.rvs s2.rs y3⟩
            · exact .inr ⟨dd, fvs, y1, y2, y3, by rw [upd_ne (ne_of_none y4 ha)]; exact y4, y5, p3.rvs s2.rs y6⟩
          · exact hc2.elim
    · cases r with
      | error e => exact passAt tk σ pins H1 s1 e s2 I1 hq
      | ok fl => cases fl with
        | ret u => exact I1.after hq
        | next => exact False.elim hq
        | brk => exact False.elim hq
        | cont => exact False.elim hq
end WR
namespace WR
open PySem PySem.Spec PyProof.Rows L2
/-! ### x += e, ints -/
def mAugAdd (i : Nat) (a : ME) : MS := fun σ st => match σ[i]? with
  | some (some (.int x)) => (a σ st).bindS σ fun y st1 => match y with
    | .int j => .ok (.nx (σ.set i (some (.int (x + j))))) st1
    | _ => .no
  | _ => .no
section
variable {Γ : Gam} {X : Cx} {W : WX}
theorem sS_augAdd (i : Nat) {x : Str} {e : Expr} {a : ME} {p2 pos : Pos} (he : SE Γ X W e a) (nd : X.N.Nodup) (hN : X.N[i]? = some x := by rfl) (hx : Loc X.env.scope x := by first | exact Or.inl rfl | exact Or.inr rfl)
    (hf : X.fn x = true ∨ X.env.scope.names.lookup x = some .local := by first | exact .inl rfl | exact .inr rfl) : SS Γ X W (.AugAssign (.Name x p2) .Add e pos) (mAugAdd i a) :=
  (ps_aug nd hN hx he ip_add hf).imp fun D σ H ⟨σp, F, ρ, st, s, re, h⟩ => by
    unfold mAugAdd at h
    cases q : σp[i]? with
    | none => rw [q] at h; exact h.elim
    | some o =>
      rw [q] at h
      cases o with
      | none => exact h.elim
      | some t =>
        cases t with
        | int z =>
          obtain ⟨v, e1, r1⟩ := re.at_ i _ q
          rw [show v = .int z from r1] at e1
          refine ⟨_, e1, σp, F, ρ, st, s, re, RanS.lift s re h fun y st1 w H1 ρ1 s1 p1 re1 ry h1 => ?_⟩
          cases y with
          | int j =>
            rw [show w = .int j from ry]
            exact ⟨z, j, rfl, rfl, h1 _ H1 ρ1 (.refl s1.rs) (re1.set rfl)⟩
          | _ => exact h1.elim
        | _ => exact h.elim
/-! ### k in d, as a test, tuple keys -/
theorem sT_dinQ {e d : Expr} {a b : ME} {pos : Pos} (hu : X.A.units + 1 < cLine) (ha : SE Γ X W e a) (hb : SE Γ X W d b) (hK : X.K = Γ.K := by rfl) (hw : X.w = Γ.w := by rfl) (h1 : behindInMarks .In d = false := by rfl) : STt Γ X W (.Compare e [.In] [d] pos) (mTst (mOp (dinQ false) a b)) :=
  (pt_cmp (pc_dinQ hu ha hb) h1).imp fun _ _ _ h => tB_imp (fun σ H Q ⟨σp, F, ρ, st, s, re, h⟩ => ⟨σp, F, ρ, st, s, re, Ran.bind s h fun x st1 v H1 ρ1 _ s1 p1 r1 h1 => ⟨σp, F, ρ1, st1, s1, re.post s p1, Ran.bind s1 h1 fun y st2 w H2 ρ2 _ s2 p2 r2 h2 => dinQ_ok hK hw s2 (p2.rv s1.rs r1) r2 h2⟩⟩) h
theorem sT_dnotinQ {e d : Expr} {a b : ME} {pos : Pos} (hu : X.A.units + 1 < cLine) (ha : SE Γ X W e a) (hb : SE Γ X W d b) (hK : X.K = Γ.K := by rfl) (hw : X.w = Γ.w := by rfl) (h1 : behindInMarks .NotIn d = false := by rfl) : STt Γ X W (.Compare e [.NotIn] [d] pos) (mTst (mOp (dinQ true) a b)) :=
  (pt_cmp (pc_dnotinQ hu ha hb) h1).imp fun _ _ _ h => tB_imp (fun σ H Q ⟨σp, F, ρ, st, s, re, h⟩ => ⟨σp, F, ρ, st, s, re, Ran.bind s h fun x st1 v H1 ρ1 _ s1 p1 r1 h1 => ⟨σp, F, ρ1, st1, s1, re.post s p1, Ran.bind s1 h1 fun y st2 w H2 ρ2 _ s2 p2 r2 h2 => dinQ_ok hK hw s2 (p2.rv s1.rs r1) r2 h2⟩⟩) h
end
/-! ### where a lambda stands in a text -/
def noX : Expr := .Name "" ⟨0, 0, 0, 0⟩
def asgE : Stmt → Expr
  | .Assign _ e _ => e
  | _ => noX
def exE : Stmt → Expr
  | .Expr e _ => e
  | _ => noX
def ifE : Stmt → Expr
  | .If e _ _ _ => e
  | _ => noX
def retE : Stmt → Expr
  | .Return (some e) _ => e
  | _ => noX
def argE : Expr → Nat → Expr
  | .Call _ es _ _, i => es.getD i noX
  | _, _ => noX
def cmpL : Expr → Expr
  | .Compare e _ _ _ => e
  | _ => noX
def notE : Expr → Expr
  | .UnaryOp _ e _ => e
  | _ => noX
def boolE : Expr → Nat → Expr
  | .BoolOp _ es _, i => es.getD i noX
  | _, _ => noX
def binL : Expr → Expr
  | .BinOp e _ _ _ => e
  | _ => noX
def attE : Expr → Expr
  | .Attribute e _ _ => e
  | _ => noX
end WR
namespace WR
open PySem PySem.Spec PyProof.Rows L2
/-! ### dict(t), t a tuple of pairs -/
section
variable {X : Cx} {pins : List (Addr × Obj)} {σ : L2.St} {H : Hp} {s : Shared}
theorem pairs_at (I : Inv X pins σ H s) : ∀ {ps : List Addr} {kvs : List (Key × V)}, Paired (fun p kv => SqT X.K H p [kV kv.1, kv.2]) ps kvs →
    ∃ (prs : List (Key × Value)) (pp : List (Value × Value)), KV kvs prs ∧ prs.length = ps.length ∧ pp.length = ps.length ∧ ∀ (j : Nat) (b : Addr), ps[j]? = some b → ∃ (k : Key) (u v : Value), prs[j]? = some (k, v) ∧ pp[j]? = some (u, v) ∧ IsTup s.heap b #[u, v] ∧ keyIs k u = true
  | _, _, .nil => ⟨[], [], .nil, rfl, rfl, fun j b e => by simp at e⟩
  | _, _, .cons (a := p) (b := kv) h t => by
    obtain ⟨prs, pp, r, l1, l2, hp⟩ := pairs_at I t
    obtain ⟨its, rv, ht, _⟩ := I.tuple h
    obtain ⟨u, y, ei, ru, ry⟩ := vals2 rv
    subst ei
    refine ⟨(kv.1, y) :: prs, (u, y) :: pp, .cons ⟨rfl, ry⟩ r, congrArg (· + 1) l1, congrArg (· + 1) l2, fun j b e => ?_⟩
    cases j with
    | zero =>
      have e : p = b := Option.some.inj e
      subst e
      exact ⟨kv.1, u, y, rfl, rfl, ht, kV_is (P := X.prog) (w := X.w) ru⟩
    | succ j => exact hp j b e
def rDictT (K : PySem.W.Frag) : List V → Hp → VK → Prop := fun xs H Q => ∃ (a : Addr) (ps : List Addr) (kvs : List (Key × V)), xs = [.ref a] ∧ (TupF H a (ps.map V.ref) ∨ KTu K a (ps.map V.ref)) ∧ Paired (fun p kv => SqT K H p [kV kv.1, kv.2]) ps kvs ∧ ∀ p, H p = none → Q (.ref p) (upd H p (.dK (mergeK [] kvs)))
theorem plain_at (I : Inv X pins σ H s) {a : Addr} {xs : List V} (h : TupF H a xs ∨ KTu X.K a xs) : ∃ its : List Value, Vals xs its ∧ PySem.PlainSeq "tuple" s.heap a its.toArray ∧ xs.length ≤ sizeLine := by
  rcases h with ⟨o, hd, e⟩ | ⟨o, its, n, e, hc, hdt, hz, rv, hd⟩
  · obtain ⟨g0, z, its, rv, ob, g1, g2, n, g3⟩ := I.hok a _ e
    rw [g0] at g1
    cases g1
    exact ⟨its, rv, ⟨o, n, g0, g2, hd, g3⟩, z⟩
  · refine ⟨its.toList, rv, ⟨o, n, I.kIn a o e, hc, hd, by rw [Array.toArray_toList]; exact hdt⟩, ?_⟩
    rw [rv.length, Array.length_toList]; exact hz
theorem call_dictT (hcalm : X.calm = true) : CallR X (.type "dict") (rDictT X.K) := fun pins s σ H xs us Q I r q => by
  obtain ⟨a, ps, kvs, e0, hq, hp, q⟩ := q
  subst e0
  obtain ⟨u, e0, rx⟩ := vals1 r
  subst e0
  obtain rfl : u = Value.ref a := rx
  obtain ⟨its, rv, pl, hz⟩ := plain_at I hq
  have ei := refs_at rv
  subst ei
  obtain ⟨prs, pp, rel, l1, l2, hpr⟩ := pairs_at I hp
  rw [List.length_map] at hz
  have back : ∀ (j : Nat) (k v : Value), pp[j]? = some (k, v) → ∃ (b : Addr) (kk : Key), ps[j]? = some b ∧ prs[j]? = some (kk, v) ∧ IsTup s.heap b #[k, v] ∧ keyIs kk k = true := fun j k v e => by
    have lt : j < ps.length := by rw [← l2]; exact (List.getElem?_eq_some_iff.mp e).1
    obtain ⟨kk, u, v', e1, e2, e3, e4⟩ := hpr j ps[j] (List.getElem?_eq_getElem lt)
    rw [e] at e2
    cases e2
    exact ⟨ps[j], kk, List.getElem?_eq_getElem lt, e1, e3, e4⟩
  have items : PySem.PairItems s.heap (ps.map Value.ref).toArray (fun j => (ps[j]?).getD 0) pp := ⟨by simp [l2], fun j k v e => by
    obtain ⟨b, kk, e1, _, e3, _⟩ := back j k v e
    refine ⟨by simp [e1], ?_⟩
    show PySem.PairAt s.heap ((ps[j]?).getD 0) k v
    rw [e1]
    exact .inl e3⟩
  refine PySem.call_dict_pairs (knd := mixKind X.prog X.w) (kvs := prs) (PySem.PairArg.tuple a (ps.map Value.ref).toArray (fun j => (ps[j]?).getD 0) pp) (I.ok.hd hcalm) ⟨pl, items⟩ ⟨by rw [l1, l2], fun i key v e => ?_⟩ (by rw [l2]; exact hz) fun h' tk dd kp => ?_
  · obtain ⟨b, kk, _, e2, _, e4⟩ := back i key v e
    exact ⟨kk, e2, e4⟩
  · have hm : (s.heap.objs.size == sysModules) = false := beq_eq_false_iff_ne.mpr (Nat.ne_of_gt I.big)
    have hlen : (mergeK [] kvs).length ≤ sizeLine := Nat.le_trans (length_mergeK kvs []) (by rw [List.length_nil, Nat.zero_add, rel.length, l1]; exact hz)
    exact ⟨.ref _, _, Inv.laid (t' := tk) I (fun b o e => kp b o (by simp) e) (Nat.le_refl _) (dk_new (a := s.heap.objs.size) hlen hm (KV.merge rel .nil) dd), rfl, q _ (I.hok.fresh (Nat.le_refl _))⟩
end
section
variable {Γ : Gam} {X : Cx} {F ρ : List Addr} {H : Hp} {st : List O}
def dictX (own : Bool) : MF := fun ts st => match ts with
  | [.tup xs] => match pairsT xs with
    | some m => dctEnd own (mergeT [] [] m) st
    | none => .no
  | _ => dictB own ts st
def rDictX (K : PySem.W.Frag) : List V → Hp → VK → Prop := fun xs H Q => rDictT K xs H Q ∨ rDictA K xs H Q
theorem call_dictX (hc : X.calm = true) : CallR X (.type "dict") (rDictX X.K) := (call_dictT hc).or (call_dictA hc)
theorem ok_dictX (own : Bool) : CallOk Γ (rDictX Γ.K) (dictX own) := fun F ρ st H xs ts Q E s r h => by
  unfold dictX at h
  split at h
  · rename_i ys
    obtain ⟨v, vr, rfl, rt, r2⟩ := r
    have e0 : vr = [] := r2
    subst e0
    split at h
    · rename_i m e4
      obtain ⟨p, vs, rfl, h1, h2⟩ := rt
      obtain ⟨ps, kvs, g1, g2, g3, g4⟩ := pairsT_ok e4 h2
      subst g1
      obtain ⟨m1, m2⟩ := mergeT_ok (kvs := []) (vs := []) g3 g4 rfl
      exact .inl ⟨p, ps, kvs, rfl, h1, g2, fun q hq => dctEnd_ok s hq h m1 m2⟩
    · exact h.elim
  · exact .inr (ok_dict own F ρ st H xs ts Q E s r h)
end
end WR
namespace WR
open PySem PySem.Spec PyProof.Rows L2
/-! ### sorted, in a form that can be reckoned -/
def mrg {α : Type} (le : α → α → Bool) : Nat → List α → List α → List α
  | 0, _, _ => []
  | n + 1, xs, ys => match xs with
    | [] => ys
    | x :: xs => match ys with
      | [] => x :: xs
      | y :: ys => match le x y with
        | true => x :: mrg le n xs (y :: ys)
        | false => y :: mrg le n (x :: xs) ys
def msort {α : Type} (le : α → α → Bool) : Nat → List α → List α
  | 0, l => l
  | n + 1, l => match l with
    | [] => []
    | [a] => [a]
    | l => mrg le (l.length + 1) (msort le n (l.take ((l.length + 1) / 2))) (msort le n (l.drop ((l.length + 1) / 2)))
def sortY : MF := fun ts st => match one1 ts with
  | some t => match lstT st t with
    | some xs => match pds st 100 xs with
      | some ds => match sortDs ds && Nat.ble xs.length 16777216 with
        | true => .ok (.lst ((msort (PySem.W.dataLe false Prod.snd) 40 (xs.zip ds)).map Prod.fst)) st
        | false => .no
      | none => .no
    | none => .no
  | none => .no
theorem mrg_eq {α : Type} {le : α → α → Bool} : ∀ (n : Nat) (xs ys : List α), xs.length + ys.length < n → mrg le n xs ys = List.merge xs ys le
  | 0, _, _, h => by omega
  | n + 1, [], ys, _ => by simp [mrg, List.nil_merge]
  | n + 1, x :: xs, [], _ => by simp [mrg, List.merge_right]
  | n + 1, x :: xs, y :: ys, h => by
    simp only [List.length_cons] at h
    rw [List.cons_merge_cons]
    show (match le x y with
      | true => x :: mrg le n xs (y :: ys)
      | false => y :: mrg le n (x :: xs) ys) = _
    rw [mrg_eq n xs (y :: ys) (by simp only [List.length_cons]; omega), mrg_eq n (x :: xs) ys (by simp only [List.length_cons]; omega)]
    cases le x y <;> rfl
theorem msort_eq {α : Type} {le : α → α → Bool} : ∀ (n : Nat) (l : List α), l.length ≤ 2 ^ n → msort le n l = l.mergeSort le
  | 0, [], _ => by simp [msort]
  | 0, [a], _ => by simp [msort]
  | 0, a :: b :: r, h => by simp at h
  | n + 1, [], _ => by simp [msort]
  | n + 1, [a], _ => by simp [msort]
  | n + 1, a :: b :: r, h => by
    have e := List.mergeSort.eq_3 le a b r
    rw [e]
    show mrg le ((a :: b :: r).length + 1) (msort le n ((a :: b :: r).take (((a :: b :: r).length + 1) / 2))) (msort le n ((a :: b :: r).drop (((a :: b :: r).length + 1) / 2))) = _
    have l1 : ((a :: b :: r).take (((a :: b :: r).length + 1) / 2)).length ≤ 2 ^ n := by
      rw [List.length_take]; rw [Nat.pow_succ] at h; omega
    have l2 : ((a :: b :: r).drop (((a :: b :: r).length + 1) / 2)).length ≤ 2 ^ n := by
      rw [List.length_drop]; rw [Nat.pow_succ] at h; omega
    rw [msort_eq n _ l1, msort_eq n _ l2, mrg_eq]
    · rw [List.MergeSort.Internal.splitInTwo_fst, List.MergeSort.Internal.splitInTwo_snd]
    · rw [List.length_mergeSort, List.length_mergeSort, List.length_take, List.length_drop]; omega
theorem sortY_eq : sortY = sortX := by
  funext ts st
  unfold sortY sortX
  cases one1 ts with
  | none => rfl
  | some t =>
    simp only
    cases lstT st t with
    | none => rfl
    | some xs =>
      simp only
      cases pds st 100 xs with
      | none => rfl
      | some ds =>
        simp only
        cases e : (sortDs ds && Nat.ble xs.length 16777216) with
        | false => rfl
        | true =>
          have e6 := Nat.le_of_ble_eq_true (Bool.and_eq_true_iff.mp e).2
          have l1 : (xs.zip ds).length ≤ xs.length := by rw [List.length_zip]; omega
          have l2 : (16777216 : Nat) ≤ 2 ^ 40 := by decide
          simp only
          rw [msort_eq 40 (xs.zip ds) (by omega)]
theorem ok_sortY {Γ : Gam} : CallOk Γ (rSortX Γ.K) sortY := sortY_eq ▸ ok_sortX
end WR
namespace G08
open PySem PySem.Spec PyProof.Rows L2 WR
def top (i : Nat) : Stmt := PySem.Challenge.pw_wishregions_k08_refusals_of_cells.main.body.getD i (.Pass ⟨0, 0, 0, 0⟩)
def d_NoMarked_init : He.DefD := ⟨("NoMarked", some "__init__"), "__init__", "NoMarked.__init__", defArgs (inClass (top 5) 0), defBody (inClass (top 5) 0), defScope (inClass (top 5) 0), [.non], []⟩
def d_is_whole : He.DefD := ⟨("is_whole", none), "is_whole", "is_whole", defArgs (top 9), defBody (top 9), defScope (top 9), [], []⟩
def d_common : He.DefD := ⟨("common", none), "common", "common", defArgs (top 10), defBody (top 10), defScope (top 10), [], []⟩
def d_is_number : He.DefD := ⟨("is_number", none), "is_number", "is_number", defArgs (top 11), defBody (top 11), defScope (top 11), [], []⟩
def d_number : He.DefD := ⟨("number", none), "number", "number", defArgs (top 12), defBody (top 12), defScope (top 12), [.int 1], []⟩
def d_plus : He.DefD := ⟨("plus", none), "plus", "plus", defArgs (top 13), defBody (top 13), defScope (top 13), [], []⟩
def d_is_name : He.DefD := ⟨("is_name", none), "is_name", "is_name", defArgs (top 19), defBody (top 19), defScope (top 19), [], []⟩
def d_is_rising : He.DefD := ⟨("is_rising", none), "is_rising", "is_rising", defArgs (top 20), defBody (top 20), defScope (top 20), [], []⟩
def d_is_part : He.DefD := ⟨("is_part", none), "is_part", "is_part", defArgs (top 21), defBody (top 21), defScope (top 21), [], []⟩
def d_is_form : He.DefD := ⟨("is_form", none), "is_form", "is_form", defArgs (top 22), defBody (top 22), defScope (top 22), [], []⟩
def d_form_of : He.DefD := ⟨("form_of", none), "form_of", "form_of", defArgs (top 23), defBody (top 23), defScope (top 23), [], []⟩
def d_is_row_of : He.DefD := ⟨("is_row_of", none), "is_row_of", "is_row_of", defArgs (top 26), defBody (top 26), defScope (top 26), [], []⟩
def d_is_one_of : He.DefD := ⟨("is_one_of", none), "is_one_of", "is_one_of", defArgs (top 27), defBody (top 27), defScope (top 27), [], []⟩
def d_is_line : He.DefD := ⟨("is_line", none), "is_line", "is_line", defArgs (top 28), defBody (top 28), defScope (top 28), [], []⟩
def d_are_marks : He.DefD := ⟨("are_marks", none), "are_marks", "are_marks", defArgs (top 32), defBody (top 32), defScope (top 32), [], []⟩
def d_need_marks : He.DefD := ⟨("need_marks", none), "need_marks", "need_marks", defArgs (top 33), defBody (top 33), defScope (top 33), [], []⟩
def d_reduced : He.DefD := ⟨("reduced", none), "reduced", "reduced", defArgs (top 34), defBody (top 34), defScope (top 34), [], []⟩
def d_whole_form : He.DefD := ⟨("whole_form", none), "whole_form", "whole_form", defArgs (top 35), defBody (top 35), defScope (top 35), [], []⟩
def d_side_of : He.DefD := ⟨("side_of", none), "side_of", "side_of", defArgs (top 36), defBody (top 36), defScope (top 36), [], []⟩
def d_sides_of : He.DefD := ⟨("sides_of", none), "sides_of", "sides_of", defArgs (top 37), defBody (top 37), defScope (top 37), [], []⟩
def d_rows_of : He.DefD := ⟨("rows_of", none), "rows_of", "rows_of", defArgs (top 38), defBody (top 38), defScope (top 38), [], []⟩
def d_value_at : He.DefD := ⟨("value_at", none), "value_at", "value_at", defArgs (top 39), defBody (top 39), defScope (top 39), [], []⟩
def d_determinant : He.DefD := ⟨("determinant", none), "determinant", "determinant", defArgs (top 40), defBody (top 40), defScope (top 40), [], []⟩
def d_lessened_row : He.DefD := ⟨("lessened_row", none), "lessened_row", "lessened_row", defArgs (top 41), defBody (top 41), defScope (top 41), [], []⟩
def d_rank_of : He.DefD := ⟨("rank_of", none), "rank_of", "rank_of", defArgs (top 42), defBody (top 42), defScope (top 42), [], []⟩
def d_lots_of : He.DefD := ⟨("lots_of", none), "lots_of", "lots_of", defArgs (top 43), defBody (top 43), defScope (top 43), [], []⟩
def d_met_by : He.DefD := ⟨("met_by", none), "met_by", "met_by", defArgs (top 44), defBody (top 44), defScope (top 44), [], []⟩
def d_corners_by : He.DefD := ⟨("corners_by", none), "corners_by", "corners_by", defArgs (top 45), defBody (top 45), defScope (top 45), [], []⟩
def d_is_open : He.DefD := ⟨("is_open", none), "is_open", "is_open", defArgs (top 46), defBody (top 46), defScope (top 46), [], []⟩
def d_across : He.DefD := ⟨("across", none), "across", "across", defArgs (top 47), defBody (top 47), defScope (top 47), [], []⟩
def d_without_idle : He.DefD := ⟨("without_idle", none), "without_idle", "without_idle", defArgs (top 48), defBody (top 48), defScope (top 48), [], []⟩
def d_bounded_rows : He.DefD := ⟨("bounded_rows", none), "bounded_rows", "bounded_rows", defArgs (top 49), defBody (top 49), defScope (top 49), [], []⟩
def d_are_lines : He.DefD := ⟨("are_lines", none), "are_lines", "are_lines", defArgs (top 50), defBody (top 50), defScope (top 50), [], []⟩
def d_cell_of : He.DefD := ⟨("cell_of", none), "cell_of", "cell_of", defArgs (top 51), defBody (top 51), defScope (top 51), [], []⟩
def d_is_cell : He.DefD := ⟨("is_cell", none), "is_cell", "is_cell", defArgs (top 52), defBody (top 52), defScope (top 52), [], []⟩
def d_need_cell : He.DefD := ⟨("need_cell", none), "need_cell", "need_cell", defArgs (top 53), defBody (top 53), defScope (top 53), [], []⟩
def d_box : He.DefD := ⟨("box", none), "box", "box", defArgs (top 54), defBody (top 54), defScope (top 54), [], []⟩
def d_need_pair : He.DefD := ⟨("need_pair", none), "need_pair", "need_pair", defArgs (top 55), defBody (top 55), defScope (top 55), [], []⟩
def d_told_corner : He.DefD := ⟨("told_corner", none), "told_corner", "told_corner", defArgs (top 56), defBody (top 56), defScope (top 56), [], []⟩
def d_whole_corners : He.DefD := ⟨("whole_corners", none), "whole_corners", "whole_corners", defArgs (top 57), defBody (top 57), defScope (top 57), [], []⟩
def d_corners : He.DefD := ⟨("corners", none), "corners", "corners", defArgs (top 58), defBody (top 58), defScope (top 58), [], []⟩
def d_inner : He.DefD := ⟨("inner", none), "inner", "inner", defArgs (top 59), defBody (top 59), defScope (top 59), [], []⟩
def d_simplices : He.DefD := ⟨("simplices", none), "simplices", "simplices", defArgs (top 61), defBody (top 61), defScope (top 61), [], []⟩
def d_volume_by : He.DefD := ⟨("volume_by", none), "volume_by", "volume_by", defArgs (top 62), defBody (top 62), defScope (top 62), [], []⟩
def d_volume : He.DefD := ⟨("volume", none), "volume", "volume", defArgs (top 63), defBody (top 63), defScope (top 63), [], []⟩
def d_told_cell : He.DefD := ⟨("told_cell", none), "told_cell", "told_cell", defArgs (top 64), defBody (top 64), defScope (top 64), [], []⟩
def d_contrary : He.DefD := ⟨("contrary", none), "contrary", "contrary", defArgs (top 65), defBody (top 65), defScope (top 65), [], []⟩
def d_cut : He.DefD := ⟨("cut", none), "cut", "cut", defArgs (top 66), defBody (top 66), defScope (top 66), [], []⟩
def d_meet : He.DefD := ⟨("meet", none), "meet", "meet", defArgs (top 67), defBody (top 67), defScope (top 67), [], []⟩
def d_parted : He.DefD := ⟨("parted", none), "parted", "parted", defArgs (top 68), defBody (top 68), defScope (top 68), [], []⟩
def d_without : He.DefD := ⟨("without", none), "without", "without", defArgs (top 69), defBody (top 69), defScope (top 69), [], []⟩
def d_need_cells : He.DefD := ⟨("need_cells", none), "need_cells", "need_cells", defArgs (top 70), defBody (top 70), defScope (top 70), [], []⟩
def d_are_apart : He.DefD := ⟨("are_apart", none), "are_apart", "are_apart", defArgs (top 71), defBody (top 71), defScope (top 71), [], []⟩
def d_lies_in : He.DefD := ⟨("lies_in", none), "lies_in", "lies_in", defArgs (top 72), defBody (top 72), defScope (top 72), [], []⟩
def d_fills : He.DefD := ⟨("fills", none), "fills", "fills", defArgs (top 73), defBody (top 73), defScope (top 73), [], []⟩
def d_l_begun : He.DefD := ⟨("_law_begun", none), "_law_begun", "_law_begun", defArgs (top 75), defBody (top 75), defScope (top 75), [], []⟩
def d_l_mixed : He.DefD := ⟨("_law_mixed", none), "_law_mixed", "_law_mixed", defArgs (top 76), defBody (top 76), defScope (top 76), [], []⟩
def d_l_draw : He.DefD := ⟨("_law_draw", none), "_law_draw", "_law_draw", defArgs (top 77), defBody (top 77), defScope (top 77), [], []⟩
def d_l_pick : He.DefD := ⟨("_law_pick", none), "_law_pick", "_law_pick", defArgs (top 78), defBody (top 78), defScope (top 78), [], []⟩
def d_l_caught : He.DefD := ⟨("_law_caught", none), "_law_caught", "_law_caught", defArgs (top 79), defBody (top 79), defScope (top 79), [], []⟩
def d_l_form : He.DefD := ⟨("_law_form", none), "_law_form", "_law_form", defArgs (top 80), defBody (top 80), defScope (top 80), [], []⟩
def d_l_line : He.DefD := ⟨("_law_line", none), "_law_line", "_law_line", defArgs (top 81), defBody (top 81), defScope (top 81), [], []⟩
def d_l_word : He.DefD := ⟨("_law_word", none), "_law_word", "_law_word", defArgs (top 82), defBody (top 82), defScope (top 82), [], []⟩
def d_law : He.DefD := ⟨("law", none), "law", "law", defArgs (top 83), defBody (top 83), defScope (top 83), [], []⟩
def fn : List He.DefD := [d_NoMarked_init, d_is_whole, d_common, d_is_number, d_number, d_plus, d_is_name, d_is_rising, d_is_part, d_is_form, d_form_of, d_is_row_of, d_is_one_of, d_is_line, d_are_marks, d_need_marks, d_reduced, d_whole_form, d_side_of, d_sides_of, d_rows_of, d_value_at, d_determinant, d_lessened_row, d_rank_of, d_lots_of, d_met_by, d_corners_by, d_is_open, d_across, d_without_idle, d_bounded_rows, d_are_lines, d_cell_of, d_is_cell, d_need_cell, d_box, d_need_pair, d_told_corner, d_whole_corners, d_corners, d_inner, d_simplices, d_volume_by, d_volume, d_told_cell, d_contrary, d_cut, d_meet, d_parted, d_without, d_need_cells, d_are_apart, d_lies_in, d_fills, d_l_begun, d_l_mixed, d_l_draw, d_l_pick, d_l_caught, d_l_form, d_l_line, d_l_word, d_law]
def fa : List He.Fa := [.glo "is_whole", .glo "common", .glo "is_number", .glo "number", .glo "plus", .glo "is_name", .glo "is_rising", .glo "is_part", .glo "is_form", .glo "form_of", .glo "is_row_of", .glo "is_one_of", .glo "is_line", .glo "are_marks", .glo "need_marks", .glo "reduced", .glo "whole_form", .glo "side_of", .glo "sides_of", .glo "rows_of", .glo "value_at", .glo "determinant", .glo "lessened_row", .glo "rank_of", .glo "lots_of", .glo "met_by", .glo "corners_by", .glo "is_open", .glo "across", .glo "without_idle", .glo "bounded_rows", .glo "are_lines", .glo "cell_of", .glo "is_cell", .glo "need_cell", .glo "box", .glo "need_pair", .glo "told_corner", .glo "whole_corners", .glo "corners", .glo "inner", .glo "simplices", .glo "volume_by", .glo "volume", .glo "told_cell", .glo "contrary", .glo "cut", .glo "meet", .glo "parted", .glo "without", .glo "need_cells", .glo "are_apart", .glo "lies_in", .glo "fills", .glo "_law_begun", .glo "_law_mixed", .glo "_law_draw", .glo "_law_pick", .glo "_law_caught", .glo "_law_form", .glo "_law_line", .glo "_law_word", .glo "law", .glo "WishError", .glo "NoNumber", .glo "NoName", .glo "NoCell", .glo "NoMarked", .glo "NoPlace", .glo "NoLot", .free "ValueError", .free "abs", .free "all", .free "any", .free "bool", .free "dict", .free "enumerate", .free "int", .free "isinstance", .free "len", .free "list", .free "max", .free "min", .free "range", .free "sorted", .free "str", .free "sum", .free "tuple", .free "zip", .exc "WishError", .exm "WishError" "WishError" true, .exc "NoNumber", .exm "NoNumber" "WishError" true, .exc "NoName", .exm "NoName" "WishError" true, .exc "NoCell", .exm "NoCell" "WishError" true, .exm "NoMarked" "WishError" true, .exc "NoPlace", .exm "NoPlace" "WishError" true, .exc "NoLot", .exm "NoLot" "WishError" true]
def loose0 : List Str := ["WishError", "NoNumber", "NoName", "NoCell", "NoMarked", "NoPlace", "NoLot", "is_whole", "common", "is_number", "number", "plus", "LETTERS", "MOST_LETTERS", "KEPT", "NOUGHT", "is_name", "is_rising", "is_part", "is_form", "form_of", "SIGNS", "is_row_of", "is_one_of", "is_line", "MOST_MARKS", "MOST_LINES", "are_marks", "need_marks", "reduced"]
def loose1 : List Str := ["whole_form", "side_of", "sides_of", "rows_of", "value_at", "determinant", "lessened_row", "rank_of", "lots_of", "met_by", "corners_by", "is_open", "across", "without_idle", "bounded_rows", "are_lines", "cell_of", "is_cell", "need_cell", "box", "need_pair", "told_corner", "whole_corners", "corners", "inner", "simplices", "volume_by", "volume", "told_cell", "contrary"]
def loose2 : List Str := ["cut", "meet", "parted", "without", "need_cells", "are_apart", "lies_in", "fills", "_law_begun", "_law_mixed", "_law_draw", "_law_pick", "_law_caught", "_law_form", "_law_line", "_law_word"]
def loose : List Str := loose0 ++ loose1 ++ loose2
def cnm : Nat → Str
  | 0 => "WishError"
  | 1 => "NoNumber"
  | 2 => "NoName"
  | 3 => "NoCell"
  | 4 => "NoMarked"
  | 5 => "NoPlace"
  | 6 => "NoLot"
  | _ => ""
def sub : Nat → Nat → Bool
  | 0, 0 => true
  | 1, 1 => true
  | 1, 0 => true
  | 2, 2 => true
  | 2, 0 => true
  | 3, 3 => true
  | 3, 0 => true
  | 4, 4 => true
  | 4, 0 => true
  | 5, 5 => true
  | 5, 0 => true
  | 6, 6 => true
  | 6, 0 => true
  | _, _ => false
def ie : Nat → Bool
  | 0 => true
  | 1 => true
  | 2 => true
  | 3 => true
  | 4 => true
  | 5 => true
  | 6 => true
  | _ => false
def isa : Tg → T → Option Bool := isaT 7 sub ie
def subW (c : Nat) : Option Bool := match ie c with
  | true => some true
  | false => none
def c_LETTERS : T := (.str "abcdefghijklmnopqrstuvwxyz")
def c_MOST_LETTERS : T := (.int 6)
def c_KEPT : T := (.tup [(.str "best"), (.str "by"), (.str "core"), (.str "drag"), (.str "drop"), (.str "end"), (.str "follow"), (.str "gone"), (.str "groups"), (.str "let"), (.str "might"), (.str "missed"), (.str "must"), (.str "no"), (.str "none"), (.str "path"), (.str "range"), (.str "redo"), (.str "should"), (.str "show"), (.str "thing"), (.str "to"), (.str "undo"), (.str "wish"), (.str "yes")])
def c_NOUGHT : T := (.tup [(.int 0), (.int 1)])
def c_SIGNS : T := (.tup [(.str "<="), (.str "=")])
def c_MOST_MARKS : T := (.int 3)
def c_MOST_LINES : T := (.int 24)
def lamQ : Str := (envOfC "law" (defScope (top 83)) 0 0 .none).qual ++ "<lambda>"
def fnm : Nat → Str
  | 0 => "corners"
  | 1 => "inner"
  | 2 => "volume"
  | 3 => "meet"
  | 4 => "without"
  | _ => ""
def gam (w : World) (K : PySem.W.Frag) (Λ : LamP) : Gam where
  w := w
  K := K
  cad := fun c => He.ga K (cnm c)
  fad := fun n => He.fAd K (fnm n, none)
  tad := fun _ => ((He.cT K ("law", none)).2, lamQ)
  lam := Λ
  lamQ := lamQ
def LT : Nat → Option LamD
  | 0 => lamD (argE (eltOf (asgE (stAt (forBody (stAt d_law.body 1)) 6)) 0) 0)
  | 1 => lamD (argE (argE (exE (stAt (forBody (stAt d_law.body 1)) 7)) 0) 0)
  | 2 => lamD (argE (argE (exE (stAt (forBody (stAt d_law.body 1)) 8)) 0) 0)
  | 3 => lamD (argE (argE (exE (stAt (forBody (stAt d_law.body 1)) 9)) 0) 0)
  | 4 => lamD (argE (argE (exE (stAt (forBody (stAt d_law.body 1)) 10)) 0) 0)
  | 5 => lamD (argE (argE (exE (stAt (forBody (stAt (forBody (stAt d_law.body 1)) 11)) 0)) 0) 0)
  | 6 => lamD (argE (argE (exE (stAt (forBody (stAt (forBody (stAt d_law.body 1)) 11)) 1)) 0) 0)
  | 7 => lamD (argE (argE (exE (stAt (forBody (stAt (forBody (stAt d_law.body 1)) 11)) 2)) 0) 0)
  | 8 => lamD (argE (argE (exE (stAt (forBody (stAt (forBody (stAt d_law.body 1)) 12)) 0)) 0) 0)
  | 9 => lamD (argE (argE (exE (stAt (forBody (stAt (forBody (stAt d_law.body 1)) 12)) 1)) 0) 0)
  | 10 => lamD (argE (argE (exE (stAt (forBody (stAt (forBody (stAt d_law.body 1)) 12)) 2)) 0) 0)
  | 11 => lamD (argE (argE (exE (stAt (forBody (stAt d_law.body 1)) 13)) 0) 0)
  | 12 => lamD (argE (argE (exE (stAt (forBody (stAt d_law.body 1)) 14)) 0) 0)
  | 13 => lamD (argE (argE (exE (stAt (forBody (stAt d_law.body 1)) 15)) 0) 0)
  | 14 => lamD (argE (argE (exE (stAt (forBody (stAt d_law.body 1)) 16)) 0) 0)
  | 15 => lamD (argE (argE (exE (stAt (forBody (stAt d_law.body 1)) 17)) 0) 0)
  | 16 => lamD (argE (argE (exE (stAt (forBody (stAt d_law.body 1)) 18)) 0) 0)
  | 17 => lamD (argE (argE (exE (stAt (forBody (stAt d_law.body 1)) 19)) 0) 0)
  | 18 => lamD (argE (argE (exE (stAt (forBody (stAt d_law.body 1)) 20)) 0) 0)
  | _ => none
def exB : List (PySem.W.Frag → Bool) := [fun K => conB K "LETTERS" c_LETTERS, fun K => conB K "MOST_LETTERS" c_MOST_LETTERS, fun K => conB K "KEPT" c_KEPT, fun K => conB K "NOUGHT" c_NOUGHT, fun K => conB K "SIGNS" c_SIGNS, fun K => conB K "MOST_MARKS" c_MOST_MARKS, fun K => conB K "MOST_LINES" c_MOST_LINES, fun K => isaB K (fun c => He.ga K (cnm c)) 7 sub ie, fun K => xclB K (He.ga K "NoMarked") (He.fAd K ("NoMarked", some "__init__")), fun K => baseB K (He.ga K "WishError")]
def ex (K : PySem.W.Frag) : Bool := exB.all fun f => f K
structure Fx (K : PySem.W.Frag) (mg : Str → Option Value) (base : Heap) : Prop where
  c : He.SaysD fa fn K
  X : K.In base
  G : base.Ns mainGlobals mg
  e : ex K = true
section
variable {w : World} {K : PySem.W.Frag} {mg : Str → Option Value} {base : Heap} {Λ : LamP}
theorem Fx.ex_ (Z : Fx K mg base) (i : Nat) {f : PySem.W.Frag → Bool} (h : exB[i]? = some f := by rfl) : f K = true := List.all_eq_true.mp Z.e f (List.mem_of_getElem? h)
theorem Fx.g_is_whole (Z : Fx K mg base) : mg "is_whole" = some (.ref (He.ga K "is_whole")) := He.glo_ok Z.X Z.G (Z.c.fact 0 (f := .glo "is_whole"))
theorem Fx.g_common (Z : Fx K mg base) : mg "common" = some (.ref (He.ga K "common")) := He.glo_ok Z.X Z.G (Z.c.fact 1 (f := .glo "common"))
theorem Fx.g_is_number (Z : Fx K mg base) : mg "is_number" = some (.ref (He.ga K "is_number")) := He.glo_ok Z.X Z.G (Z.c.fact 2 (f := .glo "is_number"))
theorem Fx.g_number (Z : Fx K mg base) : mg "number" = some (.ref (He.ga K "number")) := He.glo_ok Z.X Z.G (Z.c.fact 3 (f := .glo "number"))
theorem Fx.g_plus (Z : Fx K mg base) : mg "plus" = some (.ref (He.ga K "plus")) := He.glo_ok Z.X Z.G (Z.c.fact 4 (f := .glo "plus"))
theorem Fx.g_is_name (Z : Fx K mg base) : mg "is_name" = some (.ref (He.ga K "is_name")) := He.glo_ok Z.X Z.G (Z.c.fact 5 (f := .glo "is_name"))
theorem Fx.g_is_rising (Z : Fx K mg base) : mg "is_rising" = some (.ref (He.ga K "is_rising")) := He.glo_ok Z.X Z.G (Z.c.fact 6 (f := .glo "is_rising"))
theorem Fx.g_is_part (Z : Fx K mg base) : mg "is_part" = some (.ref (He.ga K "is_part")) := He.glo_ok Z.X Z.G (Z.c.fact 7 (f := .glo "is_part"))
theorem Fx.g_is_form (Z : Fx K mg base) : mg "is_form" = some (.ref (He.ga K "is_form")) := He.glo_ok Z.X Z.G (Z.c.fact 8 (f := .glo "is_form"))
theorem Fx.g_form_of (Z : Fx K mg base) : mg "form_of" = some (.ref (He.ga K "form_of")) := He.glo_ok Z.X Z.G (Z.c.fact 9 (f := .glo "form_of"))
theorem Fx.g_is_row_of (Z : Fx K mg base) : mg "is_row_of" = some (.ref (He.ga K "is_row_of")) := He.glo_ok Z.X Z.G (Z.c.fact 10 (f := .glo "is_row_of"))
theorem Fx.g_is_one_of (Z : Fx K mg base) : mg "is_one_of" = some (.ref (He.ga K "is_one_of")) := He.glo_ok Z.X Z.G (Z.c.fact 11 (f := .glo "is_one_of"))
theorem Fx.g_is_line (Z : Fx K mg base) : mg "is_line" = some (.ref (He.ga K "is_line")) := He.glo_ok Z.X Z.G (Z.c.fact 12 (f := .glo "is_line"))
theorem Fx.g_are_marks (Z : Fx K mg base) : mg "are_marks" = some (.ref (He.ga K "are_marks")) := He.glo_ok Z.X Z.G (Z.c.fact 13 (f := .glo "are_marks"))
theorem Fx.g_need_marks (Z : Fx K mg base) : mg "need_marks" = some (.ref (He.ga K "need_marks")) := He.glo_ok Z.X Z.G (Z.c.fact 14 (f := .glo "need_marks"))
theorem Fx.g_reduced (Z : Fx K mg base) : mg "reduced" = some (.ref (He.ga K "reduced")) := He.glo_ok Z.X Z.G (Z.c.fact 15 (f := .glo "reduced"))
theorem Fx.g_whole_form (Z : Fx K mg base) : mg "whole_form" = some (.ref (He.ga K "whole_form")) := He.glo_ok Z.X Z.G (Z.c.fact 16 (f := .glo "whole_form"))
theorem Fx.g_side_of (Z : Fx K mg base) : mg "side_of" = some (.ref (He.ga K "side_of")) := He.glo_ok Z.X Z.G (Z.c.fact 17 (f := .glo "side_of"))
theorem Fx.g_sides_of (Z : Fx K mg base) : mg "sides_of" = some (.ref (He.ga K "sides_of")) := He.glo_ok Z.X Z.G (Z.c.fact 18 (f := .glo "sides_of"))
theorem Fx.g_rows_of (Z : Fx K mg base) : mg "rows_of" = some (.ref (He.ga K "rows_of")) := He.glo_ok Z.X Z.G (Z.c.fact 19 (f := .glo "rows_of"))
theorem Fx.g_value_at (Z : Fx K mg base) : mg "value_at" = some (.ref (He.ga K "value_at")) := He.glo_ok Z.X Z.G (Z.c.fact 20 (f := .glo "value_at"))
theorem Fx.g_determinant (Z : Fx K mg base) : mg "determinant" = some (.ref (He.ga K "determinant")) := He.glo_ok Z.X Z.G (Z.c.fact 21 (f := .glo "determinant"))
theorem Fx.g_lessened_row (Z : Fx K mg base) : mg "lessened_row" = some (.ref (He.ga K "lessened_row")) := He.glo_ok Z.X Z.G (Z.c.fact 22 (f := .glo "lessened_row"))
theorem Fx.g_rank_of (Z : Fx K mg base) : mg "rank_of" = some (.ref (He.ga K "rank_of")) := He.glo_ok Z.X Z.G (Z.c.fact 23 (f := .glo "rank_of"))
theorem Fx.g_lots_of (Z : Fx K mg base) : mg "lots_of" = some (.ref (He.ga K "lots_of")) := He.glo_ok Z.X Z.G (Z.c.fact 24 (f := .glo "lots_of"))
theorem Fx.g_met_by (Z : Fx K mg base) : mg "met_by" = some (.ref (He.ga K "met_by")) := He.glo_ok Z.X Z.G (Z.c.fact 25 (f := .glo "met_by"))
theorem Fx.g_corners_by (Z : Fx K mg base) : mg "corners_by" = some (.ref (He.ga K "corners_by")) := He.glo_ok Z.X Z.G (Z.c.fact 26 (f := .glo "corners_by"))
theorem Fx.g_is_open (Z : Fx K mg base) : mg "is_open" = some (.ref (He.ga K "is_open")) := He.glo_ok Z.X Z.G (Z.c.fact 27 (f := .glo "is_open"))
theorem Fx.g_across (Z : Fx K mg base) : mg "across" = some (.ref (He.ga K "across")) := He.glo_ok Z.X Z.G (Z.c.fact 28 (f := .glo "across"))
theorem Fx.g_without_idle (Z : Fx K mg base) : mg "without_idle" = some (.ref (He.ga K "without_idle")) := He.glo_ok Z.X Z.G (Z.c.fact 29 (f := .glo "without_idle"))
theorem Fx.g_bounded_rows (Z : Fx K mg base) : mg "bounded_rows" = some (.ref (He.ga K "bounded_rows")) := He.glo_ok Z.X Z.G (Z.c.fact 30 (f := .glo "bounded_rows"))
theorem Fx.g_are_lines (Z : Fx K mg base) : mg "are_lines" = some (.ref (He.ga K "are_lines")) := He.glo_ok Z.X Z.G (Z.c.fact 31 (f := .glo "are_lines"))
theorem Fx.g_cell_of (Z : Fx K mg base) : mg "cell_of" = some (.ref (He.ga K "cell_of")) := He.glo_ok Z.X Z.G (Z.c.fact 32 (f := .glo "cell_of"))
theorem Fx.g_is_cell (Z : Fx K mg base) : mg "is_cell" = some (.ref (He.ga K "is_cell")) := He.glo_ok Z.X Z.G (Z.c.fact 33 (f := .glo "is_cell"))
theorem Fx.g_need_cell (Z : Fx K mg base) : mg "need_cell" = some (.ref (He.ga K "need_cell")) := He.glo_ok Z.X Z.G (Z.c.fact 34 (f := .glo "need_cell"))
theorem Fx.g_box (Z : Fx K mg base) : mg "box" = some (.ref (He.ga K "box")) := He.glo_ok Z.X Z.G (Z.c.fact 35 (f := .glo "box"))
theorem Fx.g_need_pair (Z : Fx K mg base) : mg "need_pair" = some (.ref (He.ga K "need_pair")) := He.glo_ok Z.X Z.G (Z.c.fact 36 (f := .glo "need_pair"))
theorem Fx.g_told_corner (Z : Fx K mg base) : mg "told_corner" = some (.ref (He.ga K "told_corner")) := He.glo_ok Z.X Z.G (Z.c.fact 37 (f := .glo "told_corner"))
theorem Fx.g_whole_corners (Z : Fx K mg base) : mg "whole_corners" = some (.ref (He.ga K "whole_corners")) := He.glo_ok Z.X Z.G (Z.c.fact 38 (f := .glo "whole_corners"))
theorem Fx.g_corners (Z : Fx K mg base) : mg "corners" = some (.ref (He.ga K "corners")) := He.glo_ok Z.X Z.G (Z.c.fact 39 (f := .glo "corners"))
theorem Fx.g_inner (Z : Fx K mg base) : mg "inner" = some (.ref (He.ga K "inner")) := He.glo_ok Z.X Z.G (Z.c.fact 40 (f := .glo "inner"))
theorem Fx.g_simplices (Z : Fx K mg base) : mg "simplices" = some (.ref (He.ga K "simplices")) := He.glo_ok Z.X Z.G (Z.c.fact 41 (f := .glo "simplices"))
theorem Fx.g_volume_by (Z : Fx K mg base) : mg "volume_by" = some (.ref (He.ga K "volume_by")) := He.glo_ok Z.X Z.G (Z.c.fact 42 (f := .glo "volume_by"))
theorem Fx.g_volume (Z : Fx K mg base) : mg "volume" = some (.ref (He.ga K "volume")) := He.glo_ok Z.X Z.G (Z.c.fact 43 (f := .glo "volume"))
theorem Fx.g_told_cell (Z : Fx K mg base) : mg "told_cell" = some (.ref (He.ga K "told_cell")) := He.glo_ok Z.X Z.G (Z.c.fact 44 (f := .glo "told_cell"))
theorem Fx.g_contrary (Z : Fx K mg base) : mg "contrary" = some (.ref (He.ga K "contrary")) := He.glo_ok Z.X Z.G (Z.c.fact 45 (f := .glo "contrary"))
theorem Fx.g_cut (Z : Fx K mg base) : mg "cut" = some (.ref (He.ga K "cut")) := He.glo_ok Z.X Z.G (Z.c.fact 46 (f := .glo "cut"))
theorem Fx.g_meet (Z : Fx K mg base) : mg "meet" = some (.ref (He.ga K "meet")) := He.glo_ok Z.X Z.G (Z.c.fact 47 (f := .glo "meet"))
theorem Fx.g_parted (Z : Fx K mg base) : mg "parted" = some (.ref (He.ga K "parted")) := He.glo_ok Z.X Z.G (Z.c.fact 48 (f := .glo "parted"))
theorem Fx.g_without (Z : Fx K mg base) : mg "without" = some (.ref (He.ga K "without")) := He.glo_ok Z.X Z.G (Z.c.fact 49 (f := .glo "without"))
theorem Fx.g_need_cells (Z : Fx K mg base) : mg "need_cells" = some (.ref (He.ga K "need_cells")) := He.glo_ok Z.X Z.G (Z.c.fact 50 (f := .glo "need_cells"))
theorem Fx.g_are_apart (Z : Fx K mg base) : mg "are_apart" = some (.ref (He.ga K "are_apart")) := He.glo_ok Z.X Z.G (Z.c.fact 51 (f := .glo "are_apart"))
theorem Fx.g_lies_in (Z : Fx K mg base) : mg "lies_in" = some (.ref (He.ga K "lies_in")) := He.glo_ok Z.X Z.G (Z.c.fact 52 (f := .glo "lies_in"))
theorem Fx.g_fills (Z : Fx K mg base) : mg "fills" = some (.ref (He.ga K "fills")) := He.glo_ok Z.X Z.G (Z.c.fact 53 (f := .glo "fills"))
theorem Fx.g__law_begun (Z : Fx K mg base) : mg "_law_begun" = some (.ref (He.ga K "_law_begun")) := He.glo_ok Z.X Z.G (Z.c.fact 54 (f := .glo "_law_begun"))
theorem Fx.g__law_mixed (Z : Fx K mg base) : mg "_law_mixed" = some (.ref (He.ga K "_law_mixed")) := He.glo_ok Z.X Z.G (Z.c.fact 55 (f := .glo "_law_mixed"))
theorem Fx.g__law_draw (Z : Fx K mg base) : mg "_law_draw" = some (.ref (He.ga K "_law_draw")) := He.glo_ok Z.X Z.G (Z.c.fact 56 (f := .glo "_law_draw"))
theorem Fx.g__law_pick (Z : Fx K mg base) : mg "_law_pick" = some (.ref (He.ga K "_law_pick")) := He.glo_ok Z.X Z.G (Z.c.fact 57 (f := .glo "_law_pick"))
theorem Fx.g__law_caught (Z : Fx K mg base) : mg "_law_caught" = some (.ref (He.ga K "_law_caught")) := He.glo_ok Z.X Z.G (Z.c.fact 58 (f := .glo "_law_caught"))
theorem Fx.g__law_form (Z : Fx K mg base) : mg "_law_form" = some (.ref (He.ga K "_law_form")) := He.glo_ok Z.X Z.G (Z.c.fact 59 (f := .glo "_law_form"))
theorem Fx.g__law_line (Z : Fx K mg base) : mg "_law_line" = some (.ref (He.ga K "_law_line")) := He.glo_ok Z.X Z.G (Z.c.fact 60 (f := .glo "_law_line"))
theorem Fx.g__law_word (Z : Fx K mg base) : mg "_law_word" = some (.ref (He.ga K "_law_word")) := He.glo_ok Z.X Z.G (Z.c.fact 61 (f := .glo "_law_word"))
theorem Fx.g_law (Z : Fx K mg base) : mg "law" = some (.ref (He.ga K "law")) := He.glo_ok Z.X Z.G (Z.c.fact 62 (f := .glo "law"))
theorem Fx.g_WishError (Z : Fx K mg base) : mg "WishError" = some (.ref (He.ga K "WishError")) := He.glo_ok Z.X Z.G (Z.c.fact 63 (f := .glo "WishError"))
theorem Fx.g_NoNumber (Z : Fx K mg base) : mg "NoNumber" = some (.ref (He.ga K "NoNumber")) := He.glo_ok Z.X Z.G (Z.c.fact 64 (f := .glo "NoNumber"))
theorem Fx.g_NoName (Z : Fx K mg base) : mg "NoName" = some (.ref (He.ga K "NoName")) := He.glo_ok Z.X Z.G (Z.c.fact 65 (f := .glo "NoName"))
theorem Fx.g_NoCell (Z : Fx K mg base) : mg "NoCell" = some (.ref (He.ga K "NoCell")) := He.glo_ok Z.X Z.G (Z.c.fact 66 (f := .glo "NoCell"))
theorem Fx.g_NoMarked (Z : Fx K mg base) : mg "NoMarked" = some (.ref (He.ga K "NoMarked")) := He.glo_ok Z.X Z.G (Z.c.fact 67 (f := .glo "NoMarked"))
theorem Fx.g_NoPlace (Z : Fx K mg base) : mg "NoPlace" = some (.ref (He.ga K "NoPlace")) := He.glo_ok Z.X Z.G (Z.c.fact 68 (f := .glo "NoPlace"))
theorem Fx.g_NoLot (Z : Fx K mg base) : mg "NoLot" = some (.ref (He.ga K "NoLot")) := He.glo_ok Z.X Z.G (Z.c.fact 69 (f := .glo "NoLot"))
theorem Fx.f_ValueError (Z : Fx K mg base) : mg "ValueError" = none := He.free_ok Z.X Z.G (Z.c.fact 70 (f := .free "ValueError"))
theorem Fx.f_abs (Z : Fx K mg base) : mg "abs" = none := He.free_ok Z.X Z.G (Z.c.fact 71 (f := .free "abs"))
theorem Fx.f_all (Z : Fx K mg base) : mg "all" = none := He.free_ok Z.X Z.G (Z.c.fact 72 (f := .free "all"))
theorem Fx.f_any (Z : Fx K mg base) : mg "any" = none := He.free_ok Z.X Z.G (Z.c.fact 73 (f := .free "any"))
theorem Fx.f_bool (Z : Fx K mg base) : mg "bool" = none := He.free_ok Z.X Z.G (Z.c.fact 74 (f := .free "bool"))
theorem Fx.f_dict (Z : Fx K mg base) : mg "dict" = none := He.free_ok Z.X Z.G (Z.c.fact 75 (f := .free "dict"))
theorem Fx.f_enumerate (Z : Fx K mg base) : mg "enumerate" = none := He.free_ok Z.X Z.G (Z.c.fact 76 (f := .free "enumerate"))
theorem Fx.f_int (Z : Fx K mg base) : mg "int" = none := He.free_ok Z.X Z.G (Z.c.fact 77 (f := .free "int"))
theorem Fx.f_isinstance (Z : Fx K mg base) : mg "isinstance" = none := He.free_ok Z.X Z.G (Z.c.fact 78 (f := .free "isinstance"))
theorem Fx.f_len (Z : Fx K mg base) : mg "len" = none := He.free_ok Z.X Z.G (Z.c.fact 79 (f := .free "len"))
theorem Fx.f_list (Z : Fx K mg base) : mg "list" = none := He.free_ok Z.X Z.G (Z.c.fact 80 (f := .free "list"))
theorem Fx.f_max (Z : Fx K mg base) : mg "max" = none := He.free_ok Z.X Z.G (Z.c.fact 81 (f := .free "max"))
theorem Fx.f_min (Z : Fx K mg base) : mg "min" = none := He.free_ok Z.X Z.G (Z.c.fact 82 (f := .free "min"))
theorem Fx.f_range (Z : Fx K mg base) : mg "range" = none := He.free_ok Z.X Z.G (Z.c.fact 83 (f := .free "range"))
theorem Fx.f_sorted (Z : Fx K mg base) : mg "sorted" = none := He.free_ok Z.X Z.G (Z.c.fact 84 (f := .free "sorted"))
theorem Fx.f_str (Z : Fx K mg base) : mg "str" = none := He.free_ok Z.X Z.G (Z.c.fact 85 (f := .free "str"))
theorem Fx.f_sum (Z : Fx K mg base) : mg "sum" = none := He.free_ok Z.X Z.G (Z.c.fact 86 (f := .free "sum"))
theorem Fx.f_tuple (Z : Fx K mg base) : mg "tuple" = none := He.free_ok Z.X Z.G (Z.c.fact 87 (f := .free "tuple"))
theorem Fx.f_zip (Z : Fx K mg base) : mg "zip" = none := He.free_ok Z.X Z.G (Z.c.fact 88 (f := .free "zip"))
theorem Fx.ex_WishError (Z : Fx K mg base) : PySem.W.excIn K (He.ga K "WishError") He.veBase "ValueError.__new__" = true ∧ PySem.W.keepIn K (.ref (He.ga K "WishError")) = true ∧ PySem.W.subIn K (.ref (He.ga K "WishError")) (.type "BaseException") = some true ∧ PySem.W.typeIn K (.ref (He.ga K "WishError")) = some (.type "type") := He.exc_ok (Z.c.fact 89 (f := .exc "WishError"))
theorem Fx.em_WishError (Z : Fx K mg base) : PySem.W.exmOne K (.ref (He.ga K "WishError")) (.ref (He.ga K "WishError")) = some true := He.exm_ok (Z.c.fact 90 (f := .exm "WishError" "WishError" true))
theorem Fx.ex_NoNumber (Z : Fx K mg base) : PySem.W.excIn K (He.ga K "NoNumber") He.veBase "ValueError.__new__" = true ∧ PySem.W.keepIn K (.ref (He.ga K "NoNumber")) = true ∧ PySem.W.subIn K (.ref (He.ga K "NoNumber")) (.type "BaseException") = some true ∧ PySem.W.typeIn K (.ref (He.ga K "NoNumber")) = some (.type "type") := He.exc_ok (Z.c.fact 91 (f := .exc "NoNumber"))
theorem Fx.em_NoNumber (Z : Fx K mg base) : PySem.W.exmOne K (.ref (He.ga K "NoNumber")) (.ref (He.ga K "WishError")) = some true := He.exm_ok (Z.c.fact 92 (f := .exm "NoNumber" "WishError" true))
theorem Fx.ex_NoName (Z : Fx K mg base) : PySem.W.excIn K (He.ga K "NoName") He.veBase "ValueError.__new__" = true ∧ PySem.W.keepIn K (.ref (He.ga K "NoName")) = true ∧ PySem.W.subIn K (.ref (He.ga K "NoName")) (.type "BaseException") = some true ∧ PySem.W.typeIn K (.ref (He.ga K "NoName")) = some (.type "type") := He.exc_ok (Z.c.fact 93 (f := .exc "NoName"))
theorem Fx.em_NoName (Z : Fx K mg base) : PySem.W.exmOne K (.ref (He.ga K "NoName")) (.ref (He.ga K "WishError")) = some true := He.exm_ok (Z.c.fact 94 (f := .exm "NoName" "WishError" true))
theorem Fx.ex_NoCell (Z : Fx K mg base) : PySem.W.excIn K (He.ga K "NoCell") He.veBase "ValueError.__new__" = true ∧ PySem.W.keepIn K (.ref (He.ga K "NoCell")) = true ∧ PySem.W.subIn K (.ref (He.ga K "NoCell")) (.type "BaseException") = some true ∧ PySem.W.typeIn K (.ref (He.ga K "NoCell")) = some (.type "type") := He.exc_ok (Z.c.fact 95 (f := .exc "NoCell"))
theorem Fx.em_NoCell (Z : Fx K mg base) : PySem.W.exmOne K (.ref (He.ga K "NoCell")) (.ref (He.ga K "WishError")) = some true := He.exm_ok (Z.c.fact 96 (f := .exm "NoCell" "WishError" true))
theorem Fx.em_NoMarked (Z : Fx K mg base) : PySem.W.exmOne K (.ref (He.ga K "NoMarked")) (.ref (He.ga K "WishError")) = some true := He.exm_ok (Z.c.fact 97 (f := .exm "NoMarked" "WishError" true))
theorem Fx.ex_NoPlace (Z : Fx K mg base) : PySem.W.excIn K (He.ga K "NoPlace") He.veBase "ValueError.__new__" = true ∧ PySem.W.keepIn K (.ref (He.ga K "NoPlace")) = true ∧ PySem.W.subIn K (.ref (He.ga K "NoPlace")) (.type "BaseException") = some true ∧ PySem.W.typeIn K (.ref (He.ga K "NoPlace")) = some (.type "type") := He.exc_ok (Z.c.fact 98 (f := .exc "NoPlace"))
theorem Fx.em_NoPlace (Z : Fx K mg base) : PySem.W.exmOne K (.ref (He.ga K "NoPlace")) (.ref (He.ga K "WishError")) = some true := He.exm_ok (Z.c.fact 99 (f := .exm "NoPlace" "WishError" true))
theorem Fx.ex_NoLot (Z : Fx K mg base) : PySem.W.excIn K (He.ga K "NoLot") He.veBase "ValueError.__new__" = true ∧ PySem.W.keepIn K (.ref (He.ga K "NoLot")) = true ∧ PySem.W.subIn K (.ref (He.ga K "NoLot")) (.type "BaseException") = some true ∧ PySem.W.typeIn K (.ref (He.ga K "NoLot")) = some (.type "type") := He.exc_ok (Z.c.fact 100 (f := .exc "NoLot"))
theorem Fx.em_NoLot (Z : Fx K mg base) : PySem.W.exmOne K (.ref (He.ga K "NoLot")) (.ref (He.ga K "WishError")) = some true := He.exm_ok (Z.c.fact 101 (f := .exm "NoLot" "WishError" true))
theorem Fx.k_LETTERS (Z : Fx K mg base) : ConT K mg "LETTERS" c_LETTERS := conB_ok Z.X Z.G (Z.ex_ 0 (f := fun K => conB K "LETTERS" c_LETTERS))
theorem Fx.k_MOST_LETTERS (Z : Fx K mg base) : ConT K mg "MOST_LETTERS" c_MOST_LETTERS := conB_ok Z.X Z.G (Z.ex_ 1 (f := fun K => conB K "MOST_LETTERS" c_MOST_LETTERS))
theorem Fx.k_KEPT (Z : Fx K mg base) : ConT K mg "KEPT" c_KEPT := conB_ok Z.X Z.G (Z.ex_ 2 (f := fun K => conB K "KEPT" c_KEPT))
theorem Fx.k_NOUGHT (Z : Fx K mg base) : ConT K mg "NOUGHT" c_NOUGHT := conB_ok Z.X Z.G (Z.ex_ 3 (f := fun K => conB K "NOUGHT" c_NOUGHT))
theorem Fx.k_SIGNS (Z : Fx K mg base) : ConT K mg "SIGNS" c_SIGNS := conB_ok Z.X Z.G (Z.ex_ 4 (f := fun K => conB K "SIGNS" c_SIGNS))
theorem Fx.k_MOST_MARKS (Z : Fx K mg base) : ConT K mg "MOST_MARKS" c_MOST_MARKS := conB_ok Z.X Z.G (Z.ex_ 5 (f := fun K => conB K "MOST_MARKS" c_MOST_MARKS))
theorem Fx.k_MOST_LINES (Z : Fx K mg base) : ConT K mg "MOST_LINES" c_MOST_LINES := conB_ok Z.X Z.G (Z.ex_ 6 (f := fun K => conB K "MOST_LINES" c_MOST_LINES))
theorem Fx.isaZ (Z : Fx K mg base) : Isa (gam w K Λ) isa := isa_ok (Z.ex_ 7 (f := fun K => isaB K (fun c => He.ga K (cnm c)) 7 sub ie))
theorem Fx.xcl_NoMarked (Z : Fx K mg base) : XCl K (He.ga K "NoMarked") (He.fAd K ("NoMarked", some "__init__")) := xclB_ok (Z.ex_ 8 (f := fun K => xclB K (He.ga K "NoMarked") (He.fAd K ("NoMarked", some "__init__"))))
theorem Fx.xf_NoMarked (Z : Fx K mg base) : XfC K (He.ga K "NoMarked") := Z.xcl_NoMarked.xf
theorem Fx.xn_NoMarked_at (Z : Fx K mg base) : PySem.W.findIn K (.ref (He.ga K "NoMarked")) "at" = some none := Z.xcl_NoMarked.noAt
theorem Fx.base_ (Z : Fx K mg base) : BaseI K (He.ga K "WishError") := baseB_ok (Z.ex_ 9 (f := fun K => baseB K (He.ga K "WishError")))
variable {P : Program}
theorem Fx.raise_WishError (Z : Fx K mg base) {X : Cx} {W : WX} {m : Str} {j : Nat} {p p2 pos pos' : Pos} (tk : Takes X W) (hK : X.K = K := by rfl) (hmg : X.mg = mg := by rfl) (hc : X.calm = true := by rfl) (hg : Gl X "WishError" := by rfl) : SS (gam w K Λ) X W (.Raise (some (.Call (.Name "WishError" p) [.Constant (.str m) j p2] [] pos)) none pos') (mRaise0 0) := by
  subst hK; subst hmg
  exact sS_raise0 0 tk PySem.F.excBase_ValueError Z.ex_WishError.1 Z.g_WishError Z.ex_WishError.2.1 (raises_own Z.ex_WishError.2.2.1 Z.ex_WishError.2.2.2) hc hg (by decide)
theorem Fx.raise_NoNumber (Z : Fx K mg base) {X : Cx} {W : WX} {m : Str} {j : Nat} {p p2 pos pos' : Pos} (tk : Takes X W) (hK : X.K = K := by rfl) (hmg : X.mg = mg := by rfl) (hc : X.calm = true := by rfl) (hg : Gl X "NoNumber" := by rfl) : SS (gam w K Λ) X W (.Raise (some (.Call (.Name "NoNumber" p) [.Constant (.str m) j p2] [] pos)) none pos') (mRaise0 1) := by
  subst hK; subst hmg
  exact sS_raise0 1 tk PySem.F.excBase_ValueError Z.ex_NoNumber.1 Z.g_NoNumber Z.ex_NoNumber.2.1 (raises_own Z.ex_NoNumber.2.2.1 Z.ex_NoNumber.2.2.2) hc hg (by decide)
theorem Fx.raise_NoName (Z : Fx K mg base) {X : Cx} {W : WX} {m : Str} {j : Nat} {p p2 pos pos' : Pos} (tk : Takes X W) (hK : X.K = K := by rfl) (hmg : X.mg = mg := by rfl) (hc : X.calm = true := by rfl) (hg : Gl X "NoName" := by rfl) : SS (gam w K Λ) X W (.Raise (some (.Call (.Name "NoName" p) [.Constant (.str m) j p2] [] pos)) none pos') (mRaise0 2) := by
  subst hK; subst hmg
  exact sS_raise0 2 tk PySem.F.excBase_ValueError Z.ex_NoName.1 Z.g_NoName Z.ex_NoName.2.1 (raises_own Z.ex_NoName.2.2.1 Z.ex_NoName.2.2.2) hc hg (by decide)
theorem Fx.raise_NoCell (Z : Fx K mg base) {X : Cx} {W : WX} {m : Str} {j : Nat} {p p2 pos pos' : Pos} (tk : Takes X W) (hK : X.K = K := by rfl) (hmg : X.mg = mg := by rfl) (hc : X.calm = true := by rfl) (hg : Gl X "NoCell" := by rfl) : SS (gam w K Λ) X W (.Raise (some (.Call (.Name "NoCell" p) [.Constant (.str m) j p2] [] pos)) none pos') (mRaise0 3) := by
  subst hK; subst hmg
  exact sS_raise0 3 tk PySem.F.excBase_ValueError Z.ex_NoCell.1 Z.g_NoCell Z.ex_NoCell.2.1 (raises_own Z.ex_NoCell.2.2.1 Z.ex_NoCell.2.2.2) hc hg (by decide)
theorem Fx.raise_NoPlace (Z : Fx K mg base) {X : Cx} {W : WX} {m : Str} {j : Nat} {p p2 pos pos' : Pos} (tk : Takes X W) (hK : X.K = K := by rfl) (hmg : X.mg = mg := by rfl) (hc : X.calm = true := by rfl) (hg : Gl X "NoPlace" := by rfl) : SS (gam w K Λ) X W (.Raise (some (.Call (.Name "NoPlace" p) [.Constant (.str m) j p2] [] pos)) none pos') (mRaise0 5) := by
  subst hK; subst hmg
  exact sS_raise0 5 tk PySem.F.excBase_ValueError Z.ex_NoPlace.1 Z.g_NoPlace Z.ex_NoPlace.2.1 (raises_own Z.ex_NoPlace.2.2.1 Z.ex_NoPlace.2.2.2) hc hg (by decide)
theorem Fx.raise_NoLot (Z : Fx K mg base) {X : Cx} {W : WX} {m : Str} {j : Nat} {p p2 pos pos' : Pos} (tk : Takes X W) (hK : X.K = K := by rfl) (hmg : X.mg = mg := by rfl) (hc : X.calm = true := by rfl) (hg : Gl X "NoLot" := by rfl) : SS (gam w K Λ) X W (.Raise (some (.Call (.Name "NoLot" p) [.Constant (.str m) j p2] [] pos)) none pos') (mRaise0 6) := by
  subst hK; subst hmg
  exact sS_raise0 6 tk PySem.F.excBase_ValueError Z.ex_NoLot.1 Z.g_NoLot Z.ex_NoLot.2.1 (raises_own Z.ex_NoLot.2.2.1 Z.ex_NoLot.2.2.2) hc hg (by decide)
theorem subW_ok (Z : Fx K mg base) : ∀ j, subW j = some true → PySem.W.exmOne K (.ref ((gam w K Λ).cad j)) (.ref (He.ga K "WishError")) = some true := fun j e => match j, e with
  | 0, _ => Z.em_WishError
  | 1, _ => Z.em_NoNumber
  | 2, _ => Z.em_NoName
  | 3, _ => Z.em_NoCell
  | 4, _ => Z.em_NoMarked
  | 5, _ => Z.em_NoPlace
  | 6, _ => Z.em_NoLot
/-! NoMarked.__init__ -/
def N_NoMarked_init : List Str := ["self", "text", "at"]
theorem S_NoMarked_init : FnScope N_NoMarked_init ["self", "text", "at"] (d_NoMarked_init).scope := ⟨rfl, rfl, rfl, by decide +kernel, rfl, by decide +kernel, by decide +kernel⟩
theorem xi_NoMarked_init (Z : Fx K mg base) : ∃ fd, FnOk P w K mg base CX0 1 (He.fAd K ("NoMarked", some "__init__")) fd ["self", "text", "at"] (spXi K "at") ∧ Binds K fd ["self", "text", "at"] [] ∧ ∃ ds, Vals [V.non] ds ∧ Binds K fd ["self", "text", "at"] ds := by
  obtain ⟨fd, F⟩ := Z.c.def_ 0 (d := d_NoMarked_init) rfl
  refine ⟨fd, xinit_ok F S_NoMarked_init rfl rfl rfl fun cdv A outer s H E => pss_cons (ps_expr (pe_binit rfl Z.g_WishError Z.base_ (pa_cons (pe_var (i := 0) rfl (.inl rfl)) (pa_cons (pe_var (i := 1) rfl (.inl rfl)) pa_nil)))) (pss_one (ps_ost (pe_var (i := 0) rfl (.inl rfl)) (pe_var (i := 2) rfl (.inl rfl)))), ?_, ?_⟩
  · obtain ⟨ds, r, b⟩ := FunD.binds1 (ps := ["self", "text", "at"]) F 3 1 (List.cons_ne_nil _ _) rfl fun T kV doc pm an cdv ct us its l1 l2 => match us, its, l1, l2 with | [_, _, _], [_], _, _ => ⟨_, rfl, rfl⟩
    cases r
    exact b
  · exact FunD.binds1 (ps := ["self", "text", "at"]) F 2 0 (List.cons_ne_nil _ _) rfl fun T kV doc pm an cdv ct us its l1 l2 => match us, its, l1, l2 with | [_, _], [_], _, _ => ⟨_, rfl, rfl⟩
theorem Fx.raise1_NoMarked (Z : Fx K mg base) {X : Cx} {W : WX} {e : Expr} {es : List Expr} {ma : M (List T)} {p pos pos' : Pos} {kx : Nat} (tk : Takes X W) (hr : Room (kx + 2) X.A) (ha : SA (gam w K Λ) X W (e :: es) ma) (hK : X.K = K := by rfl) (hmg : X.mg = mg := by rfl) (hba : X.base = base := by rfl) (hc : X.calm = true := by rfl) (hg : Gl X "NoMarked" := by rfl)
    (he : starEach (e :: es) X.env = (false, eval e X.env) :: starEach es X.env := by rfl) (hpl : (backTo pos (starEach es X.env)).any (·.1) = false := by rfl) : SS (gam w K Λ) X W (.Raise (some (.Call (.Name "NoMarked" p) (e :: es) [] pos)) none pos') (mRaiseX 4 "at" [.non] ma) := by
  subst hK; subst hmg; subst hba
  obtain ⟨fd, G, b0, ds, r, b1⟩ := xi_NoMarked_init (P := X.prog) (w := X.w) Z
  exact sS_raiseX 4 tk Z.xcl_NoMarked.oc Z.xcl_NoMarked.noAt Z.xcl_NoMarked.ini Z.xcl_NoMarked.fn G (hr.mono (by omega)) b1 r (fun _ _ _ => ⟨_, _, rfl, rfl, rfl⟩) Z.g_NoMarked ha hc hg (by decide) he hpl
theorem Fx.raise2_NoMarked (Z : Fx K mg base) {X : Cx} {W : WX} {e : Expr} {es : List Expr} {ma : M (List T)} {p pos pos' : Pos} {kx : Nat} (tk : Takes X W) (hr : Room (kx + 2) X.A) (ha : SA (gam w K Λ) X W (e :: es) ma) (hK : X.K = K := by rfl) (hmg : X.mg = mg := by rfl) (hba : X.base = base := by rfl) (hc : X.calm = true := by rfl) (hg : Gl X "NoMarked" := by rfl)
    (he : starEach (e :: es) X.env = (false, eval e X.env) :: starEach es X.env := by rfl) (hpl : (backTo pos (starEach es X.env)).any (·.1) = false := by rfl) : SS (gam w K Λ) X W (.Raise (some (.Call (.Name "NoMarked" p) (e :: es) [] pos)) none pos') (mRaiseX 4 "at" [] ma) := by
  subst hK; subst hmg; subst hba
  obtain ⟨fd, G, b0, ds, r, b1⟩ := xi_NoMarked_init (P := X.prog) (w := X.w) Z
  exact sS_raiseX 4 tk Z.xcl_NoMarked.oc Z.xcl_NoMarked.noAt Z.xcl_NoMarked.ini Z.xcl_NoMarked.fn G (hr.mono (by omega)) b0 .nil dts_nil Z.g_NoMarked ha hc hg (by decide) he hpl
/-! is_whole -/
def N_is_whole : List Str := ["thing"]
theorem S_is_whole : FnScope N_is_whole ["thing"] (d_is_whole).scope := ⟨rfl, rfl, rfl, by decide +kernel, rfl, by decide +kernel, by decide +kernel⟩
def b_is_whole : MS := (mRet (mAndV (mCB (isiB isa) (mCons (mVar 0) (mCons (mC (.ty "int")) mNil))) (mNotV (mCB (isiB isa) (mCons (mVar 0) (mCons (mC (.ty "bool")) mNil))))))
def m_is_whole : MF := mDef 1 b_is_whole
theorem bd_is_whole (Z : Fx K mg base) {cdv : Value} {A : Around} {outer : List Env} {s : Shared} {H : Hp} {E : XK} (hr : Room 0 (A.deeper (envOfC d_is_whole.qual d_is_whole.scope s.heap.objs.size (He.fAd K ("is_whole", none)) cdv))) :
    SSs (gam w K Λ) (cxOf (L2.CX P w) P w K mg base N_is_whole d_is_whole.qual d_is_whole.scope (He.fAd K ("is_whole", none)) cdv A outer s H E) (fun cls d _ H => E cls d H) d_is_whole.body b_is_whole :=
  (sSs_one (sS_ret (sE_and (sE_callB call_isA (ok_isi Z.isaZ) Z.f_isinstance boot_isinstance (sA_cons (sE_var 0) (sA_cons (sE_ty "int" Z.f_int boot_int) sA_nil))) (sE_and1 (sE_not (sE_callB call_isA (ok_isi Z.isaZ) Z.f_isinstance boot_isinstance (sA_cons (sE_var 0) (sA_cons (sE_ty "bool" Z.f_bool boot_bool) sA_nil))))))))
theorem ok_is_whole (Z : Fx K mg base) : Kept P w K mg base (gam w K Λ) 1 (He.fAd K ("is_whole", none)) ["thing"] 1 m_is_whole := by
  obtain ⟨fd, F⟩ := Z.c.def_ 1 (d := d_is_whole) rfl
  exact Kept.mk' F S_is_whole rfl (fun _ _ _ _ _ _ us hl => match us, hl with | [_], _ => rfl) fun cdv A outer s H E hr => bd_is_whole Z hr
/-! common -/
def N_common : List Str := ["one", "other"]
theorem S_common : FnScope N_common ["one", "other"] (d_common).scope := ⟨rfl, rfl, rfl, by decide +kernel, rfl, by decide +kernel, by decide +kernel⟩
def b_common : MS := (mSeq (mWhile (mTst (mOp (cmpI fun i j => decide (j < i)) (mVar 1) (mC (.int 0)))) (mPar 0 1 (mCons (mVar 1) (mCons (mOp modT (mVar 0) (mVar 1)) mNil)))) (mRet (mVar 0)))
def m_common : MF := mDef 2 b_common
theorem bd_common (Z : Fx K mg base) {cdv : Value} {A : Around} {outer : List Env} {s : Shared} {H : Hp} {E : XK} (hr : Room 0 (A.deeper (envOfC d_common.qual d_common.scope s.heap.objs.size (He.fAd K ("common", none)) cdv))) :
    SSs (gam w K Λ) (cxOf (L2.CX P w) P w K mg base N_common d_common.qual d_common.scope (He.fAd K ("common", none)) cdv A outer s H E) (fun cls d _ H => E cls d H) d_common.body b_common :=
  (sSs_cons (sS_while (sT_cmp op_gt ok_cmpI (sE_var 1) sE_int) (sSs_one (sS_par 0 1 (sA_cons (sE_var 1) (sA_cons (sE_op op_mod ok_mod (sE_var 0) (sE_var 1)) sA_nil)) (S_common).nd)) passF) (sSs_one (sS_ret (sE_var 0))))
theorem ok_common (Z : Fx K mg base) : Kept P w K mg base (gam w K Λ) 1 (He.fAd K ("common", none)) ["one", "other"] 2 m_common := by
  obtain ⟨fd, F⟩ := Z.c.def_ 2 (d := d_common) rfl
  exact Kept.mk' F S_common rfl (fun _ _ _ _ _ _ us hl => match us, hl with | [_, _], _ => rfl) fun cdv A outer s H E hr => bd_common Z hr
/-! is_number -/
def N_is_number : List Str := ["thing", "part"]
theorem S_is_number : FnScope N_is_number ["thing"] (d_is_number).scope := ⟨rfl, rfl, rfl, by decide +kernel, rfl, by decide +kernel, by decide +kernel⟩
def b_is_number : MS := (mSeq (mIfS (mOr (mNot (mTst (mCB (isiB isa) (mCons (mVar 0) (mCons (mC (.ty "tuple")) mNil))))) (mOr (mTst (mOp neT (mCB lenB (mCons (mVar 0) mNil)) (mC (.int 2)))) (mNot (mTst (mCB (anyB true) (mCons (mLc (mIA (mVar 0)) [1] (agN 1) mYes (mCall 1 (iso m_is_whole) [] (mCons (mVar 1) mNil))) mNil)))))) (mRet (mC (.bl false))) mNext) (mRet (mAndV (mOp (cmpI fun i j => decide (j < i)) (mOp ixT (mVar 0) (mC (.int 1))) (mC (.int 0))) (mOp eqT (mCall 2 (iso m_common) [] (mCons (mCB absB (mCons (mOp ixT (mVar 0) (mC (.int 0))) mNil)) (mCons (mOp ixT (mVar 0) (mC (.int 1))) mNil))) (mC (.int 1))))))
def m_is_number : MF := mDef 2 b_is_number
theorem bd_is_number (Z : Fx K mg base) {cdv : Value} {A : Around} {outer : List Env} {s : Shared} {H : Hp} {E : XK} (hr : Room 1 (A.deeper (envOfC d_is_number.qual d_is_number.scope s.heap.objs.size (He.fAd K ("is_number", none)) cdv))) :
    SSs (gam w K Λ) (cxOf (L2.CX P w) P w K mg base N_is_number d_is_number.qual d_is_number.scope (He.fAd K ("is_number", none)) cdv A outer s H E) (fun cls d _ H => E cls d H) d_is_number.body b_is_number :=
  (sSs_cons (sS_if (sT_w (sW_or (sT_not (sT_val (sE_callB call_isA (ok_isi Z.isaZ) Z.f_isinstance boot_isinstance (sA_cons (sE_var 0) (sA_cons (sE_ty "tuple" Z.f_tuple boot_tuple) sA_nil))))) (sW_or (sT_cmp (op_neA hr.units) ok_ne (sE_callB call_lenA ok_len Z.f_len boot_len (sA_cons (sE_var 0) sA_nil)) sE_int) (sW_or1 (sT_not (sT_val (sE_callB (cr_all rfl) ok_all Z.f_all boot_all (sA_cons (sE_lc (sI_any rfl (sE_var 0)) (S_is_number).nd (blkOk_by (own := [("part", 1)]) (by rfl)) (fun _ _ _ _ _ => (sG_name 1 (S_is_number).nd)) (fun _ _ _ _ _ => sTs_nil) (fun _ _ _ _ _ => (sE_kallI (ok_is_whole Z) L2.takes0 hr (by decide) Z.g_is_whole (sA_cons (sE_var 1) sA_nil)))) sA_nil)))))))) (sSs_one (sS_ret sE_bl)) sSs_nil) (sSs_one (sS_ret (sE_and (sE_cmp op_gt ok_cmpI (sE_ix (sE_var 0) sE_int rfl) sE_int) (sE_and1 (sE_cmp (op_eqA hr.units) ok_eq (sE_kallI (ok_common Z) takesF hr (by decide) Z.g_common (sA_cons (sE_callB call_abs ok_abs Z.f_abs boot_abs (sA_cons (sE_ix (sE_var 0) sE_int rfl) sA_nil)) (sA_cons (sE_ix (sE_var 0) sE_int rfl) sA_nil))) sE_int))))))
theorem ok_is_number (Z : Fx K mg base) : Kept P w K mg base (gam w K Λ) 2 (He.fAd K ("is_number", none)) ["thing"] 1 m_is_number := by
  obtain ⟨fd, F⟩ := Z.c.def_ 3 (d := d_is_number) rfl
  exact Kept.mk' F S_is_number rfl (fun _ _ _ _ _ _ us hl => match us, hl with | [_], _ => rfl) fun cdv A outer s H E hr => bd_is_number Z hr
/-! number -/
def N_number : List Str := ["over", "under", "part"]
theorem S_number : FnScope N_number ["over", "under"] (d_number).scope := ⟨rfl, rfl, rfl, by decide +kernel, rfl, by decide +kernel, by decide +kernel⟩
def b_number : MS := (mSeq (mIfS (mTst (mOp eqT (mVar 1) (mC (.int 0)))) (mRaise0 1) mNext) (mSeq (mIfS (mTst (mOp ltT (mVar 1) (mC (.int 0)))) (mPar 0 1 (mCons (mNeg (mVar 0)) (mCons (mNeg (mVar 1)) mNil))) mNext) (mSeq (mSet 2 (mCall 2 (iso m_common) [] (mCons (mCB absB (mCons (mVar 0) mNil)) (mCons (mVar 1) mNil)))) (mRet (mTup (mCons (mOp fdivT (mVar 0) (mVar 2)) (mCons (mOp fdivT (mVar 1) (mVar 2)) mNil)))))))
def m_number : MF := mDef 3 b_number
theorem bd_number (Z : Fx K mg base) {cdv : Value} {A : Around} {outer : List Env} {s : Shared} {H : Hp} {E : XK} (hr : Room 1 (A.deeper (envOfC d_number.qual d_number.scope s.heap.objs.size (He.fAd K ("number", none)) cdv))) :
    SSs (gam w K Λ) (cxOf (L2.CX P w) P w K mg base N_number d_number.qual d_number.scope (He.fAd K ("number", none)) cdv A outer s H E) (fun cls d _ H => E cls d H) d_number.body b_number :=
  (sSs_cons (sS_if (sT_cmp (op_eqA hr.units) ok_eq (sE_var 1) sE_int) (sSs_one (Z.raise_NoNumber takesF)) sSs_nil) (sSs_cons (sS_if (sT_cmp op_ltA ok_lt (sE_var 1) sE_int) (sSs_one (sS_par 0 1 (sA_cons (sE_neg (sE_var 0)) (sA_cons (sE_neg (sE_var 1)) sA_nil)) (S_number).nd)) sSs_nil) (sSs_cons (sS_set 2 (sE_kallI (ok_common Z) takesF hr (by decide) Z.g_common (sA_cons (sE_callB call_abs ok_abs Z.f_abs boot_abs (sA_cons (sE_var 0) sA_nil)) (sA_cons (sE_var 1) sA_nil))) (S_number).nd) (sSs_one (sS_ret (sE_tup (sA_cons (sE_op op_fdivW ok_fdiv (sE_var 0) (sE_var 2)) (sA_cons (sE_op op_fdivW ok_fdiv (sE_var 1) (sE_var 2)) sA_nil))))))))
theorem ok_number (Z : Fx K mg base) : Kept P w K mg base (gam w K Λ) 2 (He.fAd K ("number", none)) ["over", "under"] 2 m_number := by
  obtain ⟨fd, F⟩ := Z.c.def_ 4 (d := d_number) rfl
  exact Kept.mkD F (List.cons_ne_nil _ _) S_number rfl (fun _ _ _ _ _ _ _ us its l1 l2 => match us, its, l1, l2 with | [_, _], [_], _, _ => ⟨_, rfl, rfl⟩) fun cdv A outer s H E hr => bd_number Z hr
/-! plus -/
def N_plus : List Str := ["one", "other"]
theorem S_plus : FnScope N_plus ["one", "other"] (d_plus).scope := ⟨rfl, rfl, rfl, by decide +kernel, rfl, by decide +kernel, by decide +kernel⟩
def b_plus : MS := (mRet (mCall 2 (iso m_number) [] (mCons (mOp addT (mOp mulT (mOp ixT (mVar 0) (mC (.int 0))) (mOp ixT (mVar 1) (mC (.int 1)))) (mOp mulT (mOp ixT (mVar 1) (mC (.int 0))) (mOp ixT (mVar 0) (mC (.int 1))))) (mCons (mOp mulT (mOp ixT (mVar 0) (mC (.int 1))) (mOp ixT (mVar 1) (mC (.int 1)))) mNil))))
def m_plus : MF := mDef 2 b_plus
theorem bd_plus (Z : Fx K mg base) {cdv : Value} {A : Around} {outer : List Env} {s : Shared} {H : Hp} {E : XK} (hr : Room 2 (A.deeper (envOfC d_plus.qual d_plus.scope s.heap.objs.size (He.fAd K ("plus", none)) cdv))) :
    SSs (gam w K Λ) (cxOf (L2.CX P w) P w K mg base N_plus d_plus.qual d_plus.scope (He.fAd K ("plus", none)) cdv A outer s H E) (fun cls d _ H => E cls d H) d_plus.body b_plus :=
  (sSs_one (sS_ret (sE_kallI (ok_number Z) takesF hr (by decide) Z.g_number (sA_cons (sE_op op_addA ok_add (sE_op op_mulA ok_mul (sE_ix (sE_var 0) sE_int rfl) (sE_ix (sE_var 1) sE_int rfl)) (sE_op op_mulA ok_mul (sE_ix (sE_var 1) sE_int rfl) (sE_ix (sE_var 0) sE_int rfl))) (sA_cons (sE_op op_mulA ok_mul (sE_ix (sE_var 0) sE_int rfl) (sE_ix (sE_var 1) sE_int rfl)) sA_nil)))))
theorem ok_plus (Z : Fx K mg base) : Kept P w K mg base (gam w K Λ) 3 (He.fAd K ("plus", none)) ["one", "other"] 2 m_plus := by
  obtain ⟨fd, F⟩ := Z.c.def_ 5 (d := d_plus) rfl
  exact Kept.mk' F S_plus rfl (fun _ _ _ _ _ _ us hl => match us, hl with | [_, _], _ => rfl) fun cdv A outer s H E hr => bd_plus Z hr
/-! is_name -/
def N_is_name : List Str := ["thing", "sign"]
theorem S_is_name : FnScope N_is_name ["thing"] (d_is_name).scope := ⟨rfl, rfl, rfl, by decide +kernel, rfl, by decide +kernel, by decide +kernel⟩
def b_is_name : MS := (mSeq (mIfS (mOr (mNot (mTst (mCB (isiB isa) (mCons (mVar 0) (mCons (mC (.ty "str")) mNil))))) (mOr (mNot (mTst (mChain (cmpI fun i j => decide (i ≤ j)) (cmpI fun i j => decide (i ≤ j)) (mC (.int 1)) (mCB lenB (mCons (mVar 0) mNil)) (mC c_MOST_LETTERS)))) (mTst (mOp (inT false) (mVar 0) (mC c_KEPT))))) (mRet (mC (.bl false))) mNext) (mRet (mCB (anyB true) (mCons (mLc (mIS (mVar 0)) [1] (agN 1) mYes (mOp (inT false) (mVar 1) (mC c_LETTERS))) mNil))))
def m_is_name : MF := mDef 2 b_is_name
theorem bd_is_name (Z : Fx K mg base) {cdv : Value} {A : Around} {outer : List Env} {s : Shared} {H : Hp} {E : XK} (hr : Room 0 (A.deeper (envOfC d_is_name.qual d_is_name.scope s.heap.objs.size (He.fAd K ("is_name", none)) cdv))) :
    SSs (gam w K Λ) (cxOf (L2.CX P w) P w K mg base N_is_name d_is_name.qual d_is_name.scope (He.fAd K ("is_name", none)) cdv A outer s H E) (fun cls d _ H => E cls d H) d_is_name.body b_is_name :=
  (sSs_cons (sS_if (sT_w (sW_or (sT_not (sT_val (sE_callB call_isA (ok_isi Z.isaZ) Z.f_isinstance boot_isinstance (sA_cons (sE_var 0) (sA_cons (sE_ty "str" Z.f_str boot_str) sA_nil))))) (sW_or (sT_not (sT_chain op_le op_le ok_cmpI ok_cmpI sE_int (sE_callB call_lenA ok_len Z.f_len boot_len (sA_cons (sE_var 0) sA_nil)) (sE_con rfl Z.k_MOST_LETTERS))) (sW_or1 (sT_cmp op_inA (ok_in false) (sE_var 0) (sE_con rfl Z.k_KEPT)))))) (sSs_one (sS_ret sE_bl)) sSs_nil) (sSs_one (sS_ret (sE_callB (cr_all rfl) ok_all Z.f_all boot_all (sA_cons (sE_lc (sI_str (sE_var 0)) (S_is_name).nd (blkOk_by (own := [("sign", 1)]) (by rfl)) (fun _ _ _ _ _ => (sG_name 1 (S_is_name).nd)) (fun _ _ _ _ _ => sTs_nil) (fun _ _ _ _ _ => (sE_cmp op_inA (ok_in false) (sE_var 1) (sE_con rfl Z.k_LETTERS)))) sA_nil)))))
theorem ok_is_name (Z : Fx K mg base) : Kept P w K mg base (gam w K Λ) 1 (He.fAd K ("is_name", none)) ["thing"] 1 m_is_name := by
  obtain ⟨fd, F⟩ := Z.c.def_ 6 (d := d_is_name) rfl
  exact Kept.mk' F S_is_name rfl (fun _ _ _ _ _ _ us hl => match us, hl with | [_], _ => rfl) fun cdv A outer s H E hr => bd_is_name Z hr
/-! is_rising -/
def N_is_rising : List Str := ["names", "at"]
theorem S_is_rising : FnScope N_is_rising ["names"] (d_is_rising).scope := ⟨rfl, rfl, rfl, by decide +kernel, rfl, by decide +kernel, by decide +kernel⟩
def b_is_rising : MS := (mRet (mCB (anyB true) (mCons (mLc (mIR1 (mCons (mOp subT (mCB lenB (mCons (mVar 0) mNil)) (mC (.int 1))) mNil)) [1] (agN 1) mYes (mOp ltT (mOp ixT (mVar 0) (mVar 1)) (mOp ixT (mVar 0) (mOp addT (mVar 1) (mC (.int 1)))))) mNil)))
def m_is_rising : MF := mDef 2 b_is_rising
theorem bd_is_rising (Z : Fx K mg base) {cdv : Value} {A : Around} {outer : List Env} {s : Shared} {H : Hp} {E : XK} (hr : Room 0 (A.deeper (envOfC d_is_rising.qual d_is_rising.scope s.heap.objs.size (He.fAd K ("is_rising", none)) cdv))) :
    SSs (gam w K Λ) (cxOf (L2.CX P w) P w K mg base N_is_rising d_is_rising.qual d_is_rising.scope (He.fAd K ("is_rising", none)) cdv A outer s H E) (fun cls d _ H => E cls d H) d_is_rising.body b_is_rising :=
  (sSs_one (sS_ret (sE_callB (cr_all rfl) ok_all Z.f_all boot_all (sA_cons (sE_lc (sI_rng1 Z.f_range (sA_cons (sE_op op_sub ok_sub (sE_callB call_lenA ok_len Z.f_len boot_len (sA_cons (sE_var 0) sA_nil)) sE_int) sA_nil)) (S_is_rising).nd (blkOk_by (own := [("at", 1)]) (by rfl)) (fun _ _ _ _ _ => (sG_name 1 (S_is_rising).nd)) (fun _ _ _ _ _ => sTs_nil) (fun _ _ _ _ _ => (sE_cmp op_ltA ok_lt (sE_ix (sE_var 0) (sE_var 1) rfl) (sE_ix (sE_var 0) (sE_op op_addA ok_add (sE_var 1) sE_int) rfl)))) sA_nil))))
theorem ok_is_rising (Z : Fx K mg base) : Kept P w K mg base (gam w K Λ) 1 (He.fAd K ("is_rising", none)) ["names"] 1 m_is_rising := by
  obtain ⟨fd, F⟩ := Z.c.def_ 7 (d := d_is_rising) rfl
  exact Kept.mk' F S_is_rising rfl (fun _ _ _ _ _ _ us hl => match us, hl with | [_], _ => rfl) fun cdv A outer s H E hr => bd_is_rising Z hr
/-! is_part -/
def N_is_part : List Str := ["thing"]
theorem S_is_part : FnScope N_is_part ["thing"] (d_is_part).scope := ⟨rfl, rfl, rfl, by decide +kernel, rfl, by decide +kernel, by decide +kernel⟩
def b_is_part : MS := (mSeq (mIfS (mOr (mNot (mTst (mCB (isiB isa) (mCons (mVar 0) (mCons (mC (.ty "tuple")) mNil))))) (mTst (mOp neT (mCB lenB (mCons (mVar 0) mNil)) (mC (.int 2))))) (mRet (mC (.bl false))) mNext) (mRet (mAndV (mCall 1 (iso m_is_name) [] (mCons (mOp ixT (mVar 0) (mC (.int 0))) mNil)) (mAndV (mCall 1 (iso m_is_number) [] (mCons (mOp ixT (mVar 0) (mC (.int 1))) mNil)) (mOp neT (mOp ixT (mVar 0) (mC (.int 1))) (mC c_NOUGHT))))))
def m_is_part : MF := mDef 1 b_is_part
theorem bd_is_part (Z : Fx K mg base) {cdv : Value} {A : Around} {outer : List Env} {s : Shared} {H : Hp} {E : XK} (hr : Room 2 (A.deeper (envOfC d_is_part.qual d_is_part.scope s.heap.objs.size (He.fAd K ("is_part", none)) cdv))) :
    SSs (gam w K Λ) (cxOf (L2.CX P w) P w K mg base N_is_part d_is_part.qual d_is_part.scope (He.fAd K ("is_part", none)) cdv A outer s H E) (fun cls d _ H => E cls d H) d_is_part.body b_is_part :=
  (sSs_cons (sS_if (sT_w (sW_or (sT_not (sT_val (sE_callB call_isA (ok_isi Z.isaZ) Z.f_isinstance boot_isinstance (sA_cons (sE_var 0) (sA_cons (sE_ty "tuple" Z.f_tuple boot_tuple) sA_nil))))) (sW_or1 (sT_cmp (op_neA hr.units) ok_ne (sE_callB call_lenA ok_len Z.f_len boot_len (sA_cons (sE_var 0) sA_nil)) sE_int)))) (sSs_one (sS_ret sE_bl)) sSs_nil) (sSs_one (sS_ret (sE_and (sE_kallI (ok_is_name Z) takesF hr (by decide) Z.g_is_name (sA_cons (sE_ix (sE_var 0) sE_int rfl) sA_nil)) (sE_and (sE_kallI (ok_is_number Z) takesF hr (by decide) Z.g_is_number (sA_cons (sE_ix (sE_var 0) sE_int rfl) sA_nil)) (sE_and1 (sE_cmp (op_neA hr.units) ok_ne (sE_ix (sE_var 0) sE_int rfl) (sE_con rfl Z.k_NOUGHT))))))))
theorem ok_is_part (Z : Fx K mg base) : Kept P w K mg base (gam w K Λ) 3 (He.fAd K ("is_part", none)) ["thing"] 1 m_is_part := by
  obtain ⟨fd, F⟩ := Z.c.def_ 8 (d := d_is_part) rfl
  exact Kept.mk' F S_is_part rfl (fun _ _ _ _ _ _ us hl => match us, hl with | [_], _ => rfl) fun cdv A outer s H E hr => bd_is_part Z hr
/-! is_form -/
def N_is_form : List Str := ["thing", "part", "name", "some"]
theorem S_is_form : FnScope N_is_form ["thing"] (d_is_form).scope := ⟨rfl, rfl, rfl, by decide +kernel, rfl, by decide +kernel, by decide +kernel⟩
def b_is_form : MS := (mSeq (mIfS (mOr (mNot (mTst (mCB (isiB isa) (mCons (mVar 0) (mCons (mC (.ty "tuple")) mNil))))) (mOr (mTst (mOp neT (mCB lenB (mCons (mVar 0) mNil)) (mC (.int 2)))) (mNot (mTst (mCB (isiB isa) (mCons (mOp ixT (mVar 0) (mC (.int 0))) (mCons (mC (.ty "tuple")) mNil))))))) (mRet (mC (.bl false))) mNext) (mSeq (mIfS (mOr (mNot (mTst (mCall 1 (iso m_is_number) [] (mCons (mOp ixT (mVar 0) (mC (.int 1))) mNil)))) (mNot (mTst (mCB (anyB true) (mCons (mLc (mIA (mOp ixT (mVar 0) (mC (.int 0)))) [1] (agN 1) mYes (mCall 1 (iso m_is_part) [] (mCons (mVar 1) mNil))) mNil))))) (mRet (mC (.bl false))) mNext) (mRet (mCall 1 (iso m_is_rising) [] (mCons (mLc (mIA (mOp ixT (mVar 0) (mC (.int 0)))) [2, 3] (agT 2 (agCons (agN 2) (agCons (agN 3) agNil))) mYes (mVar 2)) mNil)))))
def m_is_form : MF := mDef 4 b_is_form
theorem bd_is_form (Z : Fx K mg base) {cdv : Value} {A : Around} {outer : List Env} {s : Shared} {H : Hp} {E : XK} (hr : Room 3 (A.deeper (envOfC d_is_form.qual d_is_form.scope s.heap.objs.size (He.fAd K ("is_form", none)) cdv))) :
    SSs (gam w K Λ) (cxOf (L2.CX P w) P w K mg base N_is_form d_is_form.qual d_is_form.scope (He.fAd K ("is_form", none)) cdv A outer s H E) (fun cls d _ H => E cls d H) d_is_form.body b_is_form :=
  (sSs_cons (sS_if (sT_w (sW_or (sT_not (sT_val (sE_callB call_isA (ok_isi Z.isaZ) Z.f_isinstance boot_isinstance (sA_cons (sE_var 0) (sA_cons (sE_ty "tuple" Z.f_tuple boot_tuple) sA_nil))))) (sW_or (sT_cmp (op_neA hr.units) ok_ne (sE_callB call_lenA ok_len Z.f_len boot_len (sA_cons (sE_var 0) sA_nil)) sE_int) (sW_or1 (sT_not (sT_val (sE_callB call_isA (ok_isi Z.isaZ) Z.f_isinstance boot_isinstance (sA_cons (sE_ix (sE_var 0) sE_int rfl) (sA_cons (sE_ty "tuple" Z.f_tuple boot_tuple) sA_nil))))))))) (sSs_one (sS_ret sE_bl)) sSs_nil) (sSs_cons (sS_if (sT_w (sW_or (sT_not (sT_val (sE_kallI (ok_is_number Z) takesF hr (by decide) Z.g_is_number (sA_cons (sE_ix (sE_var 0) sE_int rfl) sA_nil)))) (sW_or1 (sT_not (sT_val (sE_callB (cr_all rfl) ok_all Z.f_all boot_all (sA_cons (sE_lc (sI_any rfl (sE_ix (sE_var 0) sE_int rfl)) (S_is_form).nd (blkOk_by (own := [("part", 1)]) (by rfl)) (fun _ _ _ _ _ => (sG_name 1 (S_is_form).nd)) (fun _ _ _ _ _ => sTs_nil) (fun _ _ _ _ _ => (sE_kallI (ok_is_part Z) L2.takes0 hr (by decide) Z.g_is_part (sA_cons (sE_var 1) sA_nil)))) sA_nil))))))) (sSs_one (sS_ret sE_bl)) sSs_nil) (sSs_one (sS_ret (sE_kallI (ok_is_rising Z) takesF hr (by decide) Z.g_is_rising (sA_cons (sE_lc (sI_any rfl (sE_ix (sE_var 0) sE_int rfl)) (S_is_form).nd (blkOk_by (own := [("name", 2), ("some", 3)]) (by rfl)) (fun _ _ _ _ _ => (sG_tup rfl (sGs_cons (sG_name 2 (S_is_form).nd) (sGs_cons (sG_name 3 (S_is_form).nd) sGs_nil)))) (fun _ _ _ _ _ => sTs_nil) (fun _ _ _ _ _ => (sE_var 2))) sA_nil))))))
theorem ok_is_form (Z : Fx K mg base) : Kept P w K mg base (gam w K Λ) 4 (He.fAd K ("is_form", none)) ["thing"] 1 m_is_form := by
  obtain ⟨fd, F⟩ := Z.c.def_ 9 (d := d_is_form) rfl
  exact Kept.mk' F S_is_form rfl (fun _ _ _ _ _ _ us hl => match us, hl with | [_], _ => rfl) fun cdv A outer s H E hr => bd_is_form Z hr
/-! form_of -/
def N_form_of : List Str := ["pairs", "constant", "found", "name", "some"]
theorem S_form_of : FnScope N_form_of ["pairs", "constant"] (d_form_of).scope := ⟨rfl, rfl, rfl, by decide +kernel, rfl, by decide +kernel, by decide +kernel⟩
def b_form_of : MS := (mSeq (mSet 2 (mD0 true)) (mSeq (mFor (mIA (mVar 0)) (agT 2 (agCons (agN 3) (agCons (agN 4) agNil))) (mDput (mVar 2) (mVar 3) (mCall 2 (iso m_plus) [] (mCons (mDget2 (mVar 2) (mVar 3) (mC c_NOUGHT)) (mCons (mVar 4) mNil))))) (mRet (mTup (mCons (mCB tupleB (mCons (mLc (mIA (mCB (sortB false) (mCons (mVar 2) mNil))) [3] (agN 3) (mTst (mOp neT (mOp dgetT (mVar 2) (mVar 3)) (mC c_NOUGHT))) (mTup (mCons (mVar 3) (mCons (mOp dgetT (mVar 2) (mVar 3)) mNil)))) mNil)) (mCons (mVar 1) mNil))))))
def m_form_of : MF := mDef 5 b_form_of
theorem bd_form_of (Z : Fx K mg base) {cdv : Value} {A : Around} {outer : List Env} {s : Shared} {H : Hp} {E : XK} (hr : Room 3 (A.deeper (envOfC d_form_of.qual d_form_of.scope s.heap.objs.size (He.fAd K ("form_of", none)) cdv))) :
    SSs (gam w K Λ) (cxOf (L2.CX P w) P w K mg base N_form_of d_form_of.qual d_form_of.scope (He.fAd K ("form_of", none)) cdv A outer s H E) (fun cls d _ H => E cls d H) d_form_of.body b_form_of :=
  (sSs_cons (sS_set 2 (sE_d0 true) (S_form_of).nd) (sSs_cons (sS_for (sI_any rfl (sE_var 0)) (sG_tup rfl (sGs_cons (sG_name 3 (S_form_of).nd) (sGs_cons (sG_name 4 (S_form_of).nd) sGs_nil))) (sSs_one (sS_dput (by have := hr.units; exact ur1 this) (sE_var 2) (sE_var 3) (sE_kallI (ok_plus Z) takesF hr (by decide) Z.g_plus (sA_cons (sE_dget2 (by have := hr.units; exact ur1 this) (sE_var 2) (sE_var 3) (sE_con rfl Z.k_NOUGHT)) (sA_cons (sE_var 4) sA_nil))))) passF) (sSs_one (sS_ret (sE_tup (sA_cons (sE_callTy call_tupF ok_tuple Z.f_tuple boot_tuple (sA_cons (sE_lc (sI_any rfl (sE_callB (call_sortA rfl) (ok_sort false) Z.f_sorted boot_sorted (sA_cons (sE_var 2) sA_nil))) (S_form_of).nd (blkOk_by (own := [("name", 3)]) (by rfl)) (fun _ _ _ _ _ => (sG_name 3 (S_form_of).nd)) (fun _ _ _ _ _ => (sTs_one (sT_cmp (op_neA hr.units) ok_ne (sE_dget (by have := hr.units; exact ur1 this) (sE_var 2) (sE_var 3)) (sE_con rfl Z.k_NOUGHT)))) (fun _ _ _ _ _ => (sE_tup (sA_cons (sE_var 3) (sA_cons (sE_dget (by have := hr.units; exact ur1 this) (sE_var 2) (sE_var 3)) sA_nil))))) sA_nil)) (sA_cons (sE_var 1) sA_nil)))))))
theorem ok_form_of (Z : Fx K mg base) : Kept P w K mg base (gam w K Λ) 4 (He.fAd K ("form_of", none)) ["pairs", "constant"] 2 m_form_of := by
  obtain ⟨fd, F⟩ := Z.c.def_ 10 (d := d_form_of) rfl
  exact Kept.mk' F S_form_of rfl (fun _ _ _ _ _ _ us hl => match us, hl with | [_, _], _ => rfl) fun cdv A outer s H E hr => bd_form_of Z hr
/-! is_row_of -/
def N_is_row_of : List Str := ["thing", "many"]
theorem S_is_row_of : FnScope N_is_row_of ["thing", "many"] (d_is_row_of).scope := ⟨rfl, rfl, rfl, by decide +kernel, rfl, by decide +kernel, by decide +kernel⟩
def b_is_row_of : MS := (mRet (mAndV (mCB (isiB isa) (mCons (mVar 0) (mCons (mC (.ty "tuple")) mNil))) (mOp eqT (mCB lenB (mCons (mVar 0) mNil)) (mVar 1))))
def m_is_row_of : MF := mDef 2 b_is_row_of
theorem bd_is_row_of (Z : Fx K mg base) {cdv : Value} {A : Around} {outer : List Env} {s : Shared} {H : Hp} {E : XK} (hr : Room 0 (A.deeper (envOfC d_is_row_of.qual d_is_row_of.scope s.heap.objs.size (He.fAd K ("is_row_of", none)) cdv))) :
    SSs (gam w K Λ) (cxOf (L2.CX P w) P w K mg base N_is_row_of d_is_row_of.qual d_is_row_of.scope (He.fAd K ("is_row_of", none)) cdv A outer s H E) (fun cls d _ H => E cls d H) d_is_row_of.body b_is_row_of :=
  (sSs_one (sS_ret (sE_and (sE_callB call_isA (ok_isi Z.isaZ) Z.f_isinstance boot_isinstance (sA_cons (sE_var 0) (sA_cons (sE_ty "tuple" Z.f_tuple boot_tuple) sA_nil))) (sE_and1 (sE_cmp (op_eqA hr.units) ok_eq (sE_callB call_lenA ok_len Z.f_len boot_len (sA_cons (sE_var 0) sA_nil)) (sE_var 1))))))
theorem ok_is_row_of (Z : Fx K mg base) : Kept P w K mg base (gam w K Λ) 1 (He.fAd K ("is_row_of", none)) ["thing", "many"] 2 m_is_row_of := by
  obtain ⟨fd, F⟩ := Z.c.def_ 11 (d := d_is_row_of) rfl
  exact Kept.mk' F S_is_row_of rfl (fun _ _ _ _ _ _ us hl => match us, hl with | [_, _], _ => rfl) fun cdv A outer s H E hr => bd_is_row_of Z hr
/-! is_one_of -/
def N_is_one_of : List Str := ["thing", "words"]
theorem S_is_one_of : FnScope N_is_one_of ["thing", "words"] (d_is_one_of).scope := ⟨rfl, rfl, rfl, by decide +kernel, rfl, by decide +kernel, by decide +kernel⟩
def b_is_one_of : MS := (mRet (mAndV (mCB (isiB isa) (mCons (mVar 0) (mCons (mC (.ty "str")) mNil))) (mOp (inT false) (mVar 0) (mVar 1))))
def m_is_one_of : MF := mDef 2 b_is_one_of
theorem bd_is_one_of (Z : Fx K mg base) {cdv : Value} {A : Around} {outer : List Env} {s : Shared} {H : Hp} {E : XK} (hr : Room 0 (A.deeper (envOfC d_is_one_of.qual d_is_one_of.scope s.heap.objs.size (He.fAd K ("is_one_of", none)) cdv))) :
    SSs (gam w K Λ) (cxOf (L2.CX P w) P w K mg base N_is_one_of d_is_one_of.qual d_is_one_of.scope (He.fAd K ("is_one_of", none)) cdv A outer s H E) (fun cls d _ H => E cls d H) d_is_one_of.body b_is_one_of :=
  (sSs_one (sS_ret (sE_and (sE_callB call_isA (ok_isi Z.isaZ) Z.f_isinstance boot_isinstance (sA_cons (sE_var 0) (sA_cons (sE_ty "str" Z.f_str boot_str) sA_nil))) (sE_and1 (sE_cmp op_inA (ok_in false) (sE_var 0) (sE_var 1))))))
theorem ok_is_one_of (Z : Fx K mg base) : Kept P w K mg base (gam w K Λ) 1 (He.fAd K ("is_one_of", none)) ["thing", "words"] 2 m_is_one_of := by
  obtain ⟨fd, F⟩ := Z.c.def_ 12 (d := d_is_one_of) rfl
  exact Kept.mk' F S_is_one_of rfl (fun _ _ _ _ _ _ us hl => match us, hl with | [_, _], _ => rfl) fun cdv A outer s H E hr => bd_is_one_of Z hr
/-! is_line -/
def N_is_line : List Str := ["thing"]
theorem S_is_line : FnScope N_is_line ["thing"] (d_is_line).scope := ⟨rfl, rfl, rfl, by decide +kernel, rfl, by decide +kernel, by decide +kernel⟩
def b_is_line : MS := (mRet (mAndV (mCall 2 (iso m_is_row_of) [] (mCons (mVar 0) (mCons (mC (.int 2)) mNil))) (mAndV (mCall 1 (iso m_is_form) [] (mCons (mOp ixT (mVar 0) (mC (.int 0))) mNil)) (mCall 2 (iso m_is_one_of) [] (mCons (mOp ixT (mVar 0) (mC (.int 1))) (mCons (mC c_SIGNS) mNil))))))
def m_is_line : MF := mDef 1 b_is_line
theorem bd_is_line (Z : Fx K mg base) {cdv : Value} {A : Around} {outer : List Env} {s : Shared} {H : Hp} {E : XK} (hr : Room 4 (A.deeper (envOfC d_is_line.qual d_is_line.scope s.heap.objs.size (He.fAd K ("is_line", none)) cdv))) :
    SSs (gam w K Λ) (cxOf (L2.CX P w) P w K mg base N_is_line d_is_line.qual d_is_line.scope (He.fAd K ("is_line", none)) cdv A outer s H E) (fun cls d _ H => E cls d H) d_is_line.body b_is_line :=
  (sSs_one (sS_ret (sE_and (sE_kallI (ok_is_row_of Z) takesF hr (by decide) Z.g_is_row_of (sA_cons (sE_var 0) (sA_cons sE_int sA_nil))) (sE_and (sE_kallI (ok_is_form Z) takesF hr (by decide) Z.g_is_form (sA_cons (sE_ix (sE_var 0) sE_int rfl) sA_nil)) (sE_and1 (sE_kallI (ok_is_one_of Z) takesF hr (by decide) Z.g_is_one_of (sA_cons (sE_ix (sE_var 0) sE_int rfl) (sA_cons (sE_con rfl Z.k_SIGNS) sA_nil))))))))
theorem ok_is_line (Z : Fx K mg base) : Kept P w K mg base (gam w K Λ) 5 (He.fAd K ("is_line", none)) ["thing"] 1 m_is_line := by
  obtain ⟨fd, F⟩ := Z.c.def_ 13 (d := d_is_line) rfl
  exact Kept.mk' F S_is_line rfl (fun _ _ _ _ _ _ us hl => match us, hl with | [_], _ => rfl) fun cdv A outer s H E hr => bd_is_line Z hr
/-! are_marks -/
def N_are_marks : List Str := ["thing", "name"]
theorem S_are_marks : FnScope N_are_marks ["thing"] (d_are_marks).scope := ⟨rfl, rfl, rfl, by decide +kernel, rfl, by decide +kernel, by decide +kernel⟩
def b_are_marks : MS := (mSeq (mIfS (mOr (mNot (mTst (mCB (isiB isa) (mCons (mVar 0) (mCons (mC (.ty "tuple")) mNil))))) (mOr (mNot (mTst (mChain (cmpI fun i j => decide (i ≤ j)) (cmpI fun i j => decide (i ≤ j)) (mC (.int 1)) (mCB lenB (mCons (mVar 0) mNil)) (mC c_MOST_MARKS)))) (mNot (mTst (mCB (anyB true) (mCons (mLc (mIA (mVar 0)) [1] (agN 1) mYes (mCall 1 (iso m_is_name) [] (mCons (mVar 1) mNil))) mNil)))))) (mRet (mC (.bl false))) mNext) (mRet (mCall 1 (iso m_is_rising) [] (mCons (mVar 0) mNil))))
def m_are_marks : MF := mDef 2 b_are_marks
theorem bd_are_marks (Z : Fx K mg base) {cdv : Value} {A : Around} {outer : List Env} {s : Shared} {H : Hp} {E : XK} (hr : Room 1 (A.deeper (envOfC d_are_marks.qual d_are_marks.scope s.heap.objs.size (He.fAd K ("are_marks", none)) cdv))) :
    SSs (gam w K Λ) (cxOf (L2.CX P w) P w K mg base N_are_marks d_are_marks.qual d_are_marks.scope (He.fAd K ("are_marks", none)) cdv A outer s H E) (fun cls d _ H => E cls d H) d_are_marks.body b_are_marks :=
  (sSs_cons (sS_if (sT_w (sW_or (sT_not (sT_val (sE_callB call_isA (ok_isi Z.isaZ) Z.f_isinstance boot_isinstance (sA_cons (sE_var 0) (sA_cons (sE_ty "tuple" Z.f_tuple boot_tuple) sA_nil))))) (sW_or (sT_not (sT_chain op_le op_le ok_cmpI ok_cmpI sE_int (sE_callB call_lenA ok_len Z.f_len boot_len (sA_cons (sE_var 0) sA_nil)) (sE_con rfl Z.k_MOST_MARKS))) (sW_or1 (sT_not (sT_val (sE_callB (cr_all rfl) ok_all Z.f_all boot_all (sA_cons (sE_lc (sI_any rfl (sE_var 0)) (S_are_marks).nd (blkOk_by (own := [("name", 1)]) (by rfl)) (fun _ _ _ _ _ => (sG_name 1 (S_are_marks).nd)) (fun _ _ _ _ _ => sTs_nil) (fun _ _ _ _ _ => (sE_kallI (ok_is_name Z) L2.takes0 hr (by decide) Z.g_is_name (sA_cons (sE_var 1) sA_nil)))) sA_nil)))))))) (sSs_one (sS_ret sE_bl)) sSs_nil) (sSs_one (sS_ret (sE_kallI (ok_is_rising Z) takesF hr (by decide) Z.g_is_rising (sA_cons (sE_var 0) sA_nil)))))
theorem ok_are_marks (Z : Fx K mg base) : Kept P w K mg base (gam w K Λ) 2 (He.fAd K ("are_marks", none)) ["thing"] 1 m_are_marks := by
  obtain ⟨fd, F⟩ := Z.c.def_ 14 (d := d_are_marks) rfl
  exact Kept.mk' F S_are_marks rfl (fun _ _ _ _ _ _ us hl => match us, hl with | [_], _ => rfl) fun cdv A outer s H E hr => bd_are_marks Z hr
/-! need_marks -/
def N_need_marks : List Str := ["marks"]
theorem S_need_marks : FnScope N_need_marks ["marks"] (d_need_marks).scope := ⟨rfl, rfl, rfl, by decide +kernel, rfl, by decide +kernel, by decide +kernel⟩
def b_need_marks : MS := (mIfS (mNot (mTst (mCall 1 (iso m_are_marks) [] (mCons (mVar 0) mNil)))) (mRaise0 3) mNext)
def m_need_marks : MF := mDef 1 b_need_marks
theorem bd_need_marks (Z : Fx K mg base) {cdv : Value} {A : Around} {outer : List Env} {s : Shared} {H : Hp} {E : XK} (hr : Room 2 (A.deeper (envOfC d_need_marks.qual d_need_marks.scope s.heap.objs.size (He.fAd K ("need_marks", none)) cdv))) :
    SSs (gam w K Λ) (cxOf (L2.CX P w) P w K mg base N_need_marks d_need_marks.qual d_need_marks.scope (He.fAd K ("need_marks", none)) cdv A outer s H E) (fun cls d _ H => E cls d H) d_need_marks.body b_need_marks :=
  (sSs_one (sS_if (sT_not (sT_val (sE_kallI (ok_are_marks Z) takesF hr (by decide) Z.g_are_marks (sA_cons (sE_var 0) sA_nil)))) (sSs_one (Z.raise_NoCell takesF)) sSs_nil))
theorem ok_need_marks (Z : Fx K mg base) : Kept P w K mg base (gam w K Λ) 3 (He.fAd K ("need_marks", none)) ["marks"] 1 m_need_marks := by
  obtain ⟨fd, F⟩ := Z.c.def_ 15 (d := d_need_marks) rfl
  exact Kept.mk' F S_need_marks rfl (fun _ _ _ _ _ _ us hl => match us, hl with | [_], _ => rfl) fun cdv A outer s H E hr => bd_need_marks Z hr
/-! reduced -/
def N_reduced : List Str := ["numbers", "part", "one"]
theorem S_reduced : FnScope N_reduced ["numbers"] (d_reduced).scope := ⟨rfl, rfl, rfl, by decide +kernel, rfl, by decide +kernel, by decide +kernel⟩
def b_reduced : MS := (mSeq (mSet 1 (mC (.int 0))) (mSeq (mFor (mIA (mVar 0)) (agN 2) (mSet 1 (mCall 2 (iso m_common) [] (mCons (mVar 1) (mCons (mCB absB (mCons (mVar 2) mNil)) mNil))))) (mRet (mCB tupleB (mCons (mLc (mIA (mVar 0)) [2] (agN 2) mYes (mOp fdivT (mVar 2) (mCB maxB (mCons (mVar 1) (mCons (mC (.int 1)) mNil))))) mNil)))))
def m_reduced : MF := mDef 3 b_reduced
theorem bd_reduced (Z : Fx K mg base) {cdv : Value} {A : Around} {outer : List Env} {s : Shared} {H : Hp} {E : XK} (hr : Room 1 (A.deeper (envOfC d_reduced.qual d_reduced.scope s.heap.objs.size (He.fAd K ("reduced", none)) cdv))) :
    SSs (gam w K Λ) (cxOf (L2.CX P w) P w K mg base N_reduced d_reduced.qual d_reduced.scope (He.fAd K ("reduced", none)) cdv A outer s H E) (fun cls d _ H => E cls d H) d_reduced.body b_reduced :=
  (sSs_cons (sS_set 1 sE_int (S_reduced).nd) (sSs_cons (sS_for (sI_any rfl (sE_var 0)) (sG_name 2 (S_reduced).nd) (sSs_one (sS_set 1 (sE_kallI (ok_common Z) takesF hr (by decide) Z.g_common (sA_cons (sE_var 1) (sA_cons (sE_callB call_abs ok_abs Z.f_abs boot_abs (sA_cons (sE_var 2) sA_nil)) sA_nil))) (S_reduced).nd)) passF) (sSs_one (sS_ret (sE_callTy call_tupF ok_tuple Z.f_tuple boot_tuple (sA_cons (sE_lc (sI_any rfl (sE_var 0)) (S_reduced).nd (blkOk_by (own := [("one", 2)]) (by rfl)) (fun _ _ _ _ _ => (sG_name 2 (S_reduced).nd)) (fun _ _ _ _ _ => sTs_nil) (fun _ _ _ _ _ => (sE_op op_fdivW ok_fdiv (sE_var 2) (sE_callB (call_max2 rfl) ok_max Z.f_max boot_max (sA_cons (sE_var 1) (sA_cons sE_int sA_nil)))))) sA_nil))))))
theorem ok_reduced (Z : Fx K mg base) : Kept P w K mg base (gam w K Λ) 2 (He.fAd K ("reduced", none)) ["numbers"] 1 m_reduced := by
  obtain ⟨fd, F⟩ := Z.c.def_ 16 (d := d_reduced) rfl
  exact Kept.mk' F S_reduced rfl (fun _ _ _ _ _ _ us hl => match us, hl with | [_], _ => rfl) fun cdv A outer s H E hr => bd_reduced Z hr
/-! whole_form -/
def N_whole_form : List Str := ["marks", "form", "parts", "some", "mark", "under", "one"]
theorem S_whole_form : FnScope N_whole_form ["marks", "form"] (d_whole_form).scope := ⟨rfl, rfl, rfl, by decide +kernel, rfl, by decide +kernel, by decide +kernel⟩
def b_whole_form : MS := (mSeq (mSet 2 (mCB (dictX false) (mCons (mOp ixT (mVar 1) (mC (.int 0))) mNil))) (mSeq (mSet 3 (mOp addT (mLc (mIA (mVar 0)) [4] (agN 4) mYes (mDget2 (mVar 2) (mVar 4) (mTup (mCons (mC (.int 0)) (mCons (mC (.int 1)) mNil))))) (mLst (mCons (mOp ixT (mVar 1) (mC (.int 1))) mNil)))) (mSeq (mSet 5 (mC (.int 1))) (mSeq (mFor (mIA (mVar 3)) (agN 6) (mSet 5 (mOp fdivT (mOp mulT (mVar 5) (mOp ixT (mVar 6) (mC (.int 1)))) (mCall 2 (iso m_common) [] (mCons (mVar 5) (mCons (mOp ixT (mVar 6) (mC (.int 1))) mNil)))))) (mRet (mCall 1 (iso m_reduced) [] (mCons (mLc (mIA (mVar 3)) [6] (agN 6) mYes (mOp mulT (mOp ixT (mVar 6) (mC (.int 0))) (mOp fdivT (mVar 5) (mOp ixT (mVar 6) (mC (.int 1)))))) mNil)))))))
def m_whole_form : MF := mDef 7 b_whole_form
theorem bd_whole_form (Z : Fx K mg base) {cdv : Value} {A : Around} {outer : List Env} {s : Shared} {H : Hp} {E : XK} (hr : Room 2 (A.deeper (envOfC d_whole_form.qual d_whole_form.scope s.heap.objs.size (He.fAd K ("whole_form", none)) cdv))) :
    SSs (gam w K Λ) (cxOf (L2.CX P w) P w K mg base N_whole_form d_whole_form.qual d_whole_form.scope (He.fAd K ("whole_form", none)) cdv A outer s H E) (fun cls d _ H => E cls d H) d_whole_form.body b_whole_form :=
  (sSs_cons (sS_set 2 (sE_callTy (call_dictX rfl) (ok_dictX false) Z.f_dict boot_dict (sA_cons (sE_ix (sE_var 1) sE_int rfl) sA_nil)) (S_whole_form).nd) (sSs_cons (sS_set 3 (sE_op op_addA ok_add (sE_lc (sI_any rfl (sE_var 0)) (S_whole_form).nd (blkOk_by (own := [("mark", 4)]) (by rfl)) (fun _ _ _ _ _ => (sG_name 4 (S_whole_form).nd)) (fun _ _ _ _ _ => sTs_nil) (fun _ _ _ _ _ => (sE_dget2 (by have := hr.units; exact ur1 this) (sE_var 2) (sE_var 4) (sE_tup (sA_cons sE_int (sA_cons sE_int sA_nil)))))) (sE_lst (sA_cons (sE_ix (sE_var 1) sE_int rfl) sA_nil))) (S_whole_form).nd) (sSs_cons (sS_set 5 sE_int (S_whole_form).nd) (sSs_cons (sS_for (sI_any rfl (sE_var 3)) (sG_name 6 (S_whole_form).nd) (sSs_one (sS_set 5 (sE_op op_fdivW ok_fdiv (sE_op op_mulA ok_mul (sE_var 5) (sE_ix (sE_var 6) sE_int rfl)) (sE_kallI (ok_common Z) takesF hr (by decide) Z.g_common (sA_cons (sE_var 5) (sA_cons (sE_ix (sE_var 6) sE_int rfl) sA_nil)))) (S_whole_form).nd)) passF) (sSs_one (sS_ret (sE_kallI (ok_reduced Z) takesF hr (by decide) Z.g_reduced (sA_cons (sE_lc (sI_any rfl (sE_var 3)) (S_whole_form).nd (blkOk_by (own := [("one", 6)]) (by rfl)) (fun _ _ _ _ _ => (sG_name 6 (S_whole_form).nd)) (fun _ _ _ _ _ => sTs_nil) (fun _ _ _ _ _ => (sE_op op_mulA ok_mul (sE_ix (sE_var 6) sE_int rfl) (sE_op op_fdivW ok_fdiv (sE_var 5) (sE_ix (sE_var 6) sE_int rfl))))) sA_nil))))))))
theorem ok_whole_form (Z : Fx K mg base) : Kept P w K mg base (gam w K Λ) 3 (He.fAd K ("whole_form", none)) ["marks", "form"] 2 m_whole_form := by
  obtain ⟨fd, F⟩ := Z.c.def_ 17 (d := d_whole_form) rfl
  exact Kept.mk' F S_whole_form rfl (fun _ _ _ _ _ _ us hl => match us, hl with | [_, _], _ => rfl) fun cdv A outer s H E hr => bd_whole_form Z hr
/-! side_of -/
def N_side_of : List Str := ["marks", "numbers", "mark", "one"]
theorem S_side_of : FnScope N_side_of ["marks", "numbers"] (d_side_of).scope := ⟨rfl, rfl, rfl, by decide +kernel, rfl, by decide +kernel, by decide +kernel⟩
def b_side_of : MS := (mRet (mTup (mCons (mCall 2 (iso m_form_of) [] (mCons (mLc (mZip (mCons (mVar 0) (mCons (mVar 1) mNil))) [2, 3] (agT 2 (agCons (agN 2) (agCons (agN 3) agNil))) mYes (mTup (mCons (mVar 2) (mCons (mTup (mCons (mVar 3) (mCons (mC (.int 1)) mNil))) mNil)))) (mCons (mTup (mCons (mOp ixT (mVar 1) (mNeg (mC (.int 1)))) (mCons (mC (.int 1)) mNil))) mNil))) (mCons (mC (.str "<=")) mNil))))
def m_side_of : MF := mDef 4 b_side_of
theorem bd_side_of (Z : Fx K mg base) {cdv : Value} {A : Around} {outer : List Env} {s : Shared} {H : Hp} {E : XK} (hr : Room 4 (A.deeper (envOfC d_side_of.qual d_side_of.scope s.heap.objs.size (He.fAd K ("side_of", none)) cdv))) :
    SSs (gam w K Λ) (cxOf (L2.CX P w) P w K mg base N_side_of d_side_of.qual d_side_of.scope (He.fAd K ("side_of", none)) cdv A outer s H E) (fun cls d _ H => E cls d H) d_side_of.body b_side_of :=
  (sSs_one (sS_ret (sE_tup (sA_cons (sE_kallI (ok_form_of Z) takesF hr (by decide) Z.g_form_of (sA_cons (sE_lc (sI_zip rfl Z.f_zip (sA_cons (sE_var 0) (sA_cons (sE_var 1) sA_nil))) (S_side_of).nd (blkOk_by (own := [("mark", 2), ("one", 3)]) (by rfl)) (fun _ _ _ _ _ => (sG_tup rfl (sGs_cons (sG_name 2 (S_side_of).nd) (sGs_cons (sG_name 3 (S_side_of).nd) sGs_nil)))) (fun _ _ _ _ _ => sTs_nil) (fun _ _ _ _ _ => (sE_tup (sA_cons (sE_var 2) (sA_cons (sE_tup (sA_cons (sE_var 3) (sA_cons sE_int sA_nil))) sA_nil))))) (sA_cons (sE_tup (sA_cons (sE_ix (sE_var 1) (sE_neg sE_int) rfl) (sA_cons sE_int sA_nil))) sA_nil))) (sA_cons sE_str sA_nil)))))
theorem ok_side_of (Z : Fx K mg base) : Kept P w K mg base (gam w K Λ) 5 (He.fAd K ("side_of", none)) ["marks", "numbers"] 2 m_side_of := by
  obtain ⟨fd, F⟩ := Z.c.def_ 18 (d := d_side_of) rfl
  exact Kept.mk' F S_side_of rfl (fun _ _ _ _ _ _ us hl => match us, hl with | [_, _], _ => rfl) fun cdv A outer s H E hr => bd_side_of Z hr
/-! sides_of -/
def N_sides_of : List Str := ["marks", "rows", "row"]
theorem S_sides_of : FnScope N_sides_of ["marks", "rows"] (d_sides_of).scope := ⟨rfl, rfl, rfl, by decide +kernel, rfl, by decide +kernel, by decide +kernel⟩
def b_sides_of : MS := (mRet (mCB tupleB (mCons (mCB sortY (mCons (mLc (mIA (mVar 1)) [2] (agN 2) mYes (mCall 2 (iso m_side_of) [] (mCons (mVar 0) (mCons (mVar 2) mNil)))) mNil)) mNil)))
def m_sides_of : MF := mDef 3 b_sides_of
theorem bd_sides_of (Z : Fx K mg base) {cdv : Value} {A : Around} {outer : List Env} {s : Shared} {H : Hp} {E : XK} (hr : Room 5 (A.deeper (envOfC d_sides_of.qual d_sides_of.scope s.heap.objs.size (He.fAd K ("sides_of", none)) cdv))) :
    SSs (gam w K Λ) (cxOf (L2.CX P w) P w K mg base N_sides_of d_sides_of.qual d_sides_of.scope (He.fAd K ("sides_of", none)) cdv A outer s H E) (fun cls d _ H => E cls d H) d_sides_of.body b_sides_of :=
  (sSs_one (sS_ret (sE_callTy call_tupF ok_tuple Z.f_tuple boot_tuple (sA_cons (sE_callB (cr_sortX (ur128 hr)) ok_sortY Z.f_sorted boot_sorted (sA_cons (sE_lc (sI_any rfl (sE_var 1)) (S_sides_of).nd (blkOk_by (own := [("row", 2)]) (by rfl)) (fun _ _ _ _ _ => (sG_name 2 (S_sides_of).nd)) (fun _ _ _ _ _ => sTs_nil) (fun _ _ _ _ _ => (sE_kallI (ok_side_of Z) L2.takes0 hr (by decide) Z.g_side_of (sA_cons (sE_var 0) (sA_cons (sE_var 2) sA_nil))))) sA_nil)) sA_nil))))
theorem ok_sides_of (Z : Fx K mg base) : Kept P w K mg base (gam w K Λ) 6 (He.fAd K ("sides_of", none)) ["marks", "rows"] 2 m_sides_of := by
  obtain ⟨fd, F⟩ := Z.c.def_ 19 (d := d_sides_of) rfl
  exact Kept.mk' F S_sides_of rfl (fun _ _ _ _ _ _ us hl => match us, hl with | [_, _], _ => rfl) fun cdv A outer s H E hr => bd_sides_of Z hr
/-! rows_of -/
def N_rows_of : List Str := ["marks", "lines", "line"]
theorem S_rows_of : FnScope N_rows_of ["marks", "lines"] (d_rows_of).scope := ⟨rfl, rfl, rfl, by decide +kernel, rfl, by decide +kernel, by decide +kernel⟩
def b_rows_of : MS := (mRet (mLc (mIA (mVar 1)) [2] (agN 2) mYes (mCall 2 (iso m_whole_form) [] (mCons (mVar 0) (mCons (mOp ixT (mVar 2) (mC (.int 0))) mNil)))))
def m_rows_of : MF := mDef 3 b_rows_of
theorem bd_rows_of (Z : Fx K mg base) {cdv : Value} {A : Around} {outer : List Env} {s : Shared} {H : Hp} {E : XK} (hr : Room 3 (A.deeper (envOfC d_rows_of.qual d_rows_of.scope s.heap.objs.size (He.fAd K ("rows_of", none)) cdv))) :
    SSs (gam w K Λ) (cxOf (L2.CX P w) P w K mg base N_rows_of d_rows_of.qual d_rows_of.scope (He.fAd K ("rows_of", none)) cdv A outer s H E) (fun cls d _ H => E cls d H) d_rows_of.body b_rows_of :=
  (sSs_one (sS_ret (sE_lc (sI_any rfl (sE_var 1)) (S_rows_of).nd (blkOk_by (own := [("line", 2)]) (by rfl)) (fun _ _ _ _ _ => (sG_name 2 (S_rows_of).nd)) (fun _ _ _ _ _ => sTs_nil) (fun _ _ _ _ _ => (sE_kallI (ok_whole_form Z) L2.takes0 hr (by decide) Z.g_whole_form (sA_cons (sE_var 0) (sA_cons (sE_ix (sE_var 2) sE_int rfl) sA_nil)))))))
theorem ok_rows_of (Z : Fx K mg base) : Kept P w K mg base (gam w K Λ) 4 (He.fAd K ("rows_of", none)) ["marks", "lines"] 2 m_rows_of := by
  obtain ⟨fd, F⟩ := Z.c.def_ 20 (d := d_rows_of) rfl
  exact Kept.mk' F S_rows_of rfl (fun _ _ _ _ _ _ us hl => match us, hl with | [_, _], _ => rfl) fun cdv A outer s H E hr => bd_rows_of Z hr
/-! value_at -/
def N_value_at : List Str := ["row", "corner", "one", "two"]
theorem S_value_at : FnScope N_value_at ["row", "corner"] (d_value_at).scope := ⟨rfl, rfl, rfl, by decide +kernel, rfl, by decide +kernel, by decide +kernel⟩
def b_value_at : MS := (mRet (mCB sumB (mCons (mLc (mZip (mCons (mVar 0) (mCons (mVar 1) mNil))) [2, 3] (agT 2 (agCons (agN 2) (agCons (agN 3) agNil))) mYes (mOp mulT (mVar 2) (mVar 3))) mNil)))
def m_value_at : MF := mDef 4 b_value_at
theorem bd_value_at (Z : Fx K mg base) {cdv : Value} {A : Around} {outer : List Env} {s : Shared} {H : Hp} {E : XK} (hr : Room 0 (A.deeper (envOfC d_value_at.qual d_value_at.scope s.heap.objs.size (He.fAd K ("value_at", none)) cdv))) :
    SSs (gam w K Λ) (cxOf (L2.CX P w) P w K mg base N_value_at d_value_at.qual d_value_at.scope (He.fAd K ("value_at", none)) cdv A outer s H E) (fun cls d _ H => E cls d H) d_value_at.body b_value_at :=
  (sSs_one (sS_ret (sE_callB (cr_sum rfl) ok_sum Z.f_sum boot_sum (sA_cons (sE_lc (sI_zip rfl Z.f_zip (sA_cons (sE_var 0) (sA_cons (sE_var 1) sA_nil))) (S_value_at).nd (blkOk_by (own := [("one", 2), ("two", 3)]) (by rfl)) (fun _ _ _ _ _ => (sG_tup rfl (sGs_cons (sG_name 2 (S_value_at).nd) (sGs_cons (sG_name 3 (S_value_at).nd) sGs_nil)))) (fun _ _ _ _ _ => sTs_nil) (fun _ _ _ _ _ => (sE_op op_mulA ok_mul (sE_var 2) (sE_var 3)))) sA_nil))))
theorem ok_value_at (Z : Fx K mg base) : Kept P w K mg base (gam w K Λ) 1 (He.fAd K ("value_at", none)) ["row", "corner"] 2 m_value_at := by
  obtain ⟨fd, F⟩ := Z.c.def_ 21 (d := d_value_at) rfl
  exact Kept.mk' F S_value_at rfl (fun _ _ _ _ _ _ us hl => match us, hl with | [_, _], _ => rfl) fun cdv A outer s H E hr => bd_value_at Z hr
/-! determinant -/
def N_determinant : List Str := ["rows", "found", "sign", "at", "row", "spot", "other"]
theorem S_determinant : FnScope N_determinant ["rows"] (d_determinant).scope := ⟨rfl, rfl, rfl, by decide +kernel, rfl, by decide +kernel, by decide +kernel⟩
def b_determinant (rec : MF) : MS := (mSeq (mIfS (mTst (mOp eqT (mCB lenB (mCons (mVar 0) mNil)) (mC (.int 1)))) (mRet (mOp ixT (mOp ixT (mVar 0) (mC (.int 0))) (mC (.int 0)))) mNext) (mSeq (mAsg (agT 2 (agCons (agN 1) (agCons (agN 2) agNil))) (mTup (mCons (mC (.int 0)) (mCons (mC (.int 1)) mNil)))) (mSeq (mFor (mEnum (mCons (mVar 0) mNil)) (agT 2 (agCons (agN 3) (agCons (agN 4) agNil))) (mSeq (mIfS (mTst (mOp neT (mOp ixT (mVar 4) (mC (.int 0))) (mC (.int 0)))) (mAugAdd 1 (mOp mulT (mOp mulT (mVar 2) (mOp ixT (mVar 4) (mC (.int 0)))) (mCall 1 (iso rec) [] (mCons (mLc (mEnum (mCons (mVar 0) mNil)) [5, 6] (agT 2 (agCons (agN 5) (agCons (agN 6) agNil))) (mTst (mOp neT (mVar 5) (mVar 3))) (mSl (mVar 6) (some (mC (.int 1))) none)) mNil)))) mNext) (mSet 2 (mOp subT (mC (.int 0)) (mVar 2))))) (mRet (mVar 1)))))
def m_determinantR : Nat → MF
  | 0 => fun _ _ => .no
  | n + 1 => mDef 7 (b_determinant (m_determinantR n))
def m_determinant : MF := m_determinantR 8
theorem bd_determinant (Z : Fx K mg base) {kr : Nat} {rec : MF} (G : Kept P w K mg base (gam w K Λ) kr (He.fAd K ("determinant", none)) ["rows"] 1 rec) (hkr : 0 ≤ kr) {cdv : Value} {A : Around} {outer : List Env} {s : Shared} {H : Hp} {E : XK} (hr : Room kr (A.deeper (envOfC d_determinant.qual d_determinant.scope s.heap.objs.size (He.fAd K ("determinant", none)) cdv))) :
    SSs (gam w K Λ) (cxOf (L2.CX P w) P w K mg base N_determinant d_determinant.qual d_determinant.scope (He.fAd K ("determinant", none)) cdv A outer s H E) (fun cls d _ H => E cls d H) d_determinant.body (b_determinant rec) :=
  (sSs_cons (sS_if (sT_cmp (op_eqA hr.units) ok_eq (sE_callB call_lenA ok_len Z.f_len boot_len (sA_cons (sE_var 0) sA_nil)) sE_int) (sSs_one (sS_ret (sE_ix (sE_ix (sE_var 0) sE_int rfl) sE_int rfl))) sSs_nil) (sSs_cons (sS_asg (sE_tup (sA_cons sE_int (sA_cons sE_int sA_nil))) (sG_tup rfl (sGs_cons (sG_name 1 (S_determinant).nd) (sGs_cons (sG_name 2 (S_determinant).nd) sGs_nil)))) (sSs_cons (sS_for (sI_enum rfl Z.f_enumerate (sA_cons (sE_var 0) sA_nil)) (sG_tup rfl (sGs_cons (sG_name 3 (S_determinant).nd) (sGs_cons (sG_name 4 (S_determinant).nd) sGs_nil))) (sSs_cons (sS_if (sT_cmp (op_neA hr.units) ok_ne (sE_ix (sE_var 4) sE_int rfl) sE_int) (sSs_one (sS_augAdd 1 (sE_op op_mulA ok_mul (sE_op op_mulA ok_mul (sE_var 2) (sE_ix (sE_var 4) sE_int rfl)) (sE_kallI G takesF hr (Nat.le_refl _) Z.g_determinant (sA_cons (sE_lc (sI_enum rfl Z.f_enumerate (sA_cons (sE_var 0) sA_nil)) (S_determinant).nd (blkOk_by (own := [("spot", 5), ("other", 6)]) (by rfl)) (fun _ _ _ _ _ => (sG_tup rfl (sGs_cons (sG_name 5 (S_determinant).nd) (sGs_cons (sG_name 6 (S_determinant).nd) sGs_nil)))) (fun _ _ _ _ _ => (sTs_one (sT_cmp (op_neA hr.units) ok_ne (sE_var 5) (sE_var 3)))) (fun _ _ _ _ _ => (sE_sl rfl (sE_var 6) (sP_some sE_int) sP_none))) sA_nil))) (S_determinant).nd)) sSs_nil) (sSs_one (sS_set 2 (sE_op op_sub ok_sub sE_int (sE_var 2)) (S_determinant).nd))) passF) (sSs_one (sS_ret (sE_var 1))))))
theorem ok_determinantR (Z : Fx K mg base) : ∀ j, Kept P w K mg base (gam w K Λ) (0 + j) (He.fAd K ("determinant", none)) ["rows"] 1 (m_determinantR j)
  | 0 => by
    obtain ⟨fd, F⟩ := Z.c.def_ 22 (d := d_determinant) rfl
    exact Kept.none F (fun _ _ _ _ _ _ us hl => match us, hl with | [_], _ => rfl)
  | j + 1 => by
    obtain ⟨fd, F⟩ := Z.c.def_ 22 (d := d_determinant) rfl
    exact Kept.mk' F S_determinant rfl (fun _ _ _ _ _ _ us hl => match us, hl with | [_], _ => rfl) fun cdv A outer s H E hr => bd_determinant Z (ok_determinantR Z j) (by omega) hr
theorem ok_determinant (Z : Fx K mg base) : Kept P w K mg base (gam w K Λ) 8 (He.fAd K ("determinant", none)) ["rows"] 1 m_determinant := ok_determinantR Z 8
/-! lessened_row -/
def N_lessened_row : List Str := ["row", "first", "place", "one", "two"]
theorem S_lessened_row : FnScope N_lessened_row ["row", "first", "place"] (d_lessened_row).scope := ⟨rfl, rfl, rfl, by decide +kernel, rfl, by decide +kernel, by decide +kernel⟩
def b_lessened_row : MS := (mRet (mCB listB (mCons (mCall 1 (iso m_reduced) [] (mCons (mLc (mZip (mCons (mVar 0) (mCons (mVar 1) mNil))) [3, 4] (agT 2 (agCons (agN 3) (agCons (agN 4) agNil))) mYes (mOp subT (mOp mulT (mVar 3) (mOp ixT (mVar 1) (mVar 2))) (mOp mulT (mVar 4) (mOp ixT (mVar 0) (mVar 2))))) mNil)) mNil)))
def m_lessened_row : MF := mDef 5 b_lessened_row
theorem bd_lessened_row (Z : Fx K mg base) {cdv : Value} {A : Around} {outer : List Env} {s : Shared} {H : Hp} {E : XK} (hr : Room 2 (A.deeper (envOfC d_lessened_row.qual d_lessened_row.scope s.heap.objs.size (He.fAd K ("lessened_row", none)) cdv))) :
    SSs (gam w K Λ) (cxOf (L2.CX P w) P w K mg base N_lessened_row d_lessened_row.qual d_lessened_row.scope (He.fAd K ("lessened_row", none)) cdv A outer s H E) (fun cls d _ H => E cls d H) d_lessened_row.body b_lessened_row :=
  (sSs_one (sS_ret (sE_callTy call_list_of ok_list Z.f_list boot_list (sA_cons (sE_kallI (ok_reduced Z) takesF hr (by decide) Z.g_reduced (sA_cons (sE_lc (sI_zip rfl Z.f_zip (sA_cons (sE_var 0) (sA_cons (sE_var 1) sA_nil))) (S_lessened_row).nd (blkOk_by (own := [("one", 3), ("two", 4)]) (by rfl)) (fun _ _ _ _ _ => (sG_tup rfl (sGs_cons (sG_name 3 (S_lessened_row).nd) (sGs_cons (sG_name 4 (S_lessened_row).nd) sGs_nil)))) (fun _ _ _ _ _ => sTs_nil) (fun _ _ _ _ _ => (sE_op op_sub ok_sub (sE_op op_mulA ok_mul (sE_var 3) (sE_ix (sE_var 1) (sE_var 2) rfl)) (sE_op op_mulA ok_mul (sE_var 4) (sE_ix (sE_var 0) (sE_var 2) rfl))))) sA_nil)) sA_nil))))
theorem ok_lessened_row (Z : Fx K mg base) : Kept P w K mg base (gam w K Λ) 3 (He.fAd K ("lessened_row", none)) ["row", "first", "place"] 3 m_lessened_row := by
  obtain ⟨fd, F⟩ := Z.c.def_ 23 (d := d_lessened_row) rfl
  exact Kept.mk' F S_lessened_row rfl (fun _ _ _ _ _ _ us hl => match us, hl with | [_, _, _], _ => rfl) fun cdv A outer s H E hr => bd_lessened_row Z hr
/-! rank_of -/
def N_rank_of : List Str := ["rows", "left", "found", "row", "place", "chosen", "at", "first", "rest"]
theorem S_rank_of : FnScope N_rank_of ["rows"] (d_rank_of).scope := ⟨rfl, rfl, rfl, by decide +kernel, rfl, by decide +kernel, by decide +kernel⟩
def b_rank_of : MS := (mSeq (mPar 1 2 (mCons (mLc (mIA (mVar 0)) [3] (agN 3) mYes (mCB listB (mCons (mVar 3) mNil))) (mCons (mC (.int 0)) mNil))) (mSeq (mFor (mIR1 (mCons (mIf (mTst (mOp neT (mVar 0) (mLst mNil))) (mCB lenB (mCons (mOp ixT (mVar 0) (mC (.int 0))) mNil)) (mC (.int 0))) mNil)) (agN 4) (mSeq (mSet 5 (mLc (mEnum (mCons (mVar 1) mNil)) [6, 3] (agT 2 (agCons (agN 6) (agCons (agN 3) agNil))) (mTst (mOp neT (mOp ixT (mVar 3) (mVar 4)) (mC (.int 0)))) (mVar 6))) (mIfS (mTst (mOp neT (mVar 5) (mLst mNil))) (mSeq (mAsg (agT 2 (agCons (agN 2) (agCons (agN 7) agNil))) (mTup (mCons (mOp addT (mVar 2) (mC (.int 1))) (mCons (mOp ixT (mVar 1) (mOp ixT (mVar 5) (mC (.int 0)))) mNil)))) (mSeq (mSet 8 (mOp addT (mSl (mVar 1) none (some (mOp ixT (mVar 5) (mC (.int 0))))) (mSl (mVar 1) (some (mOp addT (mOp ixT (mVar 5) (mC (.int 0))) (mC (.int 1)))) none))) (mSet 1 (mLc (mIA (mVar 8)) [3] (agN 3) mYes (mCall 3 (iso m_lessened_row) [] (mCons (mVar 3) (mCons (mVar 7) (mCons (mVar 4) mNil)))))))) mNext))) (mRet (mVar 2))))
def m_rank_of : MF := mDef 9 b_rank_of
theorem bd_rank_of (Z : Fx K mg base) {cdv : Value} {A : Around} {outer : List Env} {s : Shared} {H : Hp} {E : XK} (hr : Room 3 (A.deeper (envOfC d_rank_of.qual d_rank_of.scope s.heap.objs.size (He.fAd K ("rank_of", none)) cdv))) :
    SSs (gam w K Λ) (cxOf (L2.CX P w) P w K mg base N_rank_of d_rank_of.qual d_rank_of.scope (He.fAd K ("rank_of", none)) cdv A outer s H E) (fun cls d _ H => E cls d H) d_rank_of.body b_rank_of :=
  (sSs_cons (sS_par 1 2 (sA_cons (sE_lc (sI_any rfl (sE_var 0)) (S_rank_of).nd (blkOk_by (own := [("row", 3)]) (by rfl)) (fun _ _ _ _ _ => (sG_name 3 (S_rank_of).nd)) (fun _ _ _ _ _ => sTs_nil) (fun _ _ _ _ _ => (sE_callTy call_list_of ok_list Z.f_list boot_list (sA_cons (sE_var 3) sA_nil)))) (sA_cons sE_int sA_nil)) (S_rank_of).nd) (sSs_cons (sS_for (sI_rng1 Z.f_range (sA_cons (sE_if (sT_cmp (op_neA hr.units) ok_ne (sE_var 0) (sE_lst sA_nil)) (sE_callB call_lenA ok_len Z.f_len boot_len (sA_cons (sE_ix (sE_var 0) sE_int rfl) sA_nil)) sE_int) sA_nil)) (sG_name 4 (S_rank_of).nd) (sSs_cons (sS_setLc 5 (sI_enum rfl Z.f_enumerate (sA_cons (sE_var 1) sA_nil)) (S_rank_of).nd (blkOk_by (own := [("at", 6), ("row", 3)]) (by rfl)) (fun _ _ _ _ _ => (sG_tup rfl (sGs_cons (sG_name 6 (S_rank_of).nd) (sGs_cons (sG_name 3 (S_rank_of).nd) sGs_nil)))) (fun _ _ _ _ _ => (sTs_one (sT_cmp (op_neA hr.units) ok_ne (sE_ix (sE_var 3) (sE_var 4) rfl) sE_int))) (fun _ _ _ _ _ => (sE_var 6))) (sSs_one (sS_if (sT_cmp (op_neA hr.units) ok_ne (sE_var 5) (sE_lst sA_nil)) (sSs_cons (sS_asg (sE_tup (sA_cons (sE_op op_addA ok_add (sE_var 2) sE_int) (sA_cons (sE_ix (sE_var 1) (sE_ix (sE_var 5) sE_int rfl) rfl) sA_nil))) (sG_tup rfl (sGs_cons (sG_name 2 (S_rank_of).nd) (sGs_cons (sG_name 7 (S_rank_of).nd) sGs_nil)))) (sSs_cons (sS_set 8 (sE_op op_addA ok_add (sE_sl rfl (sE_var 1) sP_none (sP_some (sE_ix (sE_var 5) sE_int rfl))) (sE_sl rfl (sE_var 1) (sP_some (sE_op op_addA ok_add (sE_ix (sE_var 5) sE_int rfl) sE_int)) sP_none)) (S_rank_of).nd) (sSs_one (sS_setLc 1 (sI_any rfl (sE_var 8)) (S_rank_of).nd (blkOk_by (own := [("row", 3)]) (by rfl)) (fun _ _ _ _ _ => (sG_name 3 (S_rank_of).nd)) (fun _ _ _ _ _ => sTs_nil) (fun _ _ _ _ _ => (sE_kallI (ok_lessened_row Z) L2.takes0 hr (by decide) Z.g_lessened_row (sA_cons (sE_var 3) (sA_cons (sE_var 7) (sA_cons (sE_var 4) sA_nil))))))))) sSs_nil))) passF) (sSs_one (sS_ret (sE_var 2)))))
theorem ok_rank_of (Z : Fx K mg base) : Kept P w K mg base (gam w K Λ) 4 (He.fAd K ("rank_of", none)) ["rows"] 1 m_rank_of := by
  obtain ⟨fd, F⟩ := Z.c.def_ 24 (d := d_rank_of) rfl
  exact Kept.mk' F S_rank_of rfl (fun _ _ _ _ _ _ us hl => match us, hl with | [_], _ => rfl) fun cdv A outer s H E hr => bd_rank_of Z hr
/-! lots_of -/
def N_lots_of : List Str := ["many", "size", "found", "at", "lot"]
theorem S_lots_of : FnScope N_lots_of ["many", "size"] (d_lots_of).scope := ⟨rfl, rfl, rfl, by decide +kernel, rfl, by decide +kernel, by decide +kernel⟩
def b_lots_of : MS := (mSeq (mSet 2 (mLst (mCons (mTup mNil) mNil))) (mSeq (mFor (mIR1 (mCons (mVar 0) mNil)) (agN 3) (mSet 2 (mOp addT (mVar 2) (mLc (mIA (mVar 2)) [4] (agN 4) (mTst (mOp ltT (mCB lenB (mCons (mVar 4) mNil)) (mVar 1))) (mOp addT (mVar 4) (mTup (mCons (mVar 3) mNil))))))) (mRet (mLc (mIA (mVar 2)) [4] (agN 4) (mTst (mOp eqT (mCB lenB (mCons (mVar 4) mNil)) (mVar 1))) (mVar 4)))))
def m_lots_of : MF := mDef 5 b_lots_of
theorem bd_lots_of (Z : Fx K mg base) {cdv : Value} {A : Around} {outer : List Env} {s : Shared} {H : Hp} {E : XK} (hr : Room 0 (A.deeper (envOfC d_lots_of.qual d_lots_of.scope s.heap.objs.size (He.fAd K ("lots_of", none)) cdv))) :
    SSs (gam w K Λ) (cxOf (L2.CX P w) P w K mg base N_lots_of d_lots_of.qual d_lots_of.scope (He.fAd K ("lots_of", none)) cdv A outer s H E) (fun cls d _ H => E cls d H) d_lots_of.body b_lots_of :=
  (sSs_cons (sS_set 2 (sE_lst (sA_cons (sE_tup sA_nil) sA_nil)) (S_lots_of).nd) (sSs_cons (sS_for (sI_rng1 Z.f_range (sA_cons (sE_var 0) sA_nil)) (sG_name 3 (S_lots_of).nd) (sSs_one (sS_set 2 (sE_op op_addA ok_add (sE_var 2) (sE_lc (sI_any rfl (sE_var 2)) (S_lots_of).nd (blkOk_by (own := [("lot", 4)]) (by rfl)) (fun _ _ _ _ _ => (sG_name 4 (S_lots_of).nd)) (fun _ _ _ _ _ => (sTs_one (sT_cmp op_ltA ok_lt (sE_callB call_lenA ok_len Z.f_len boot_len (sA_cons (sE_var 4) sA_nil)) (sE_var 1)))) (fun _ _ _ _ _ => (sE_op op_addA ok_add (sE_var 4) (sE_tup (sA_cons (sE_var 3) sA_nil)))))) (S_lots_of).nd)) passF) (sSs_one (sS_ret (sE_lc (sI_any rfl (sE_var 2)) (S_lots_of).nd (blkOk_by (own := [("lot", 4)]) (by rfl)) (fun _ _ _ _ _ => (sG_name 4 (S_lots_of).nd)) (fun _ _ _ _ _ => (sTs_one (sT_cmp (op_eqA hr.units) ok_eq (sE_callB call_lenA ok_len Z.f_len boot_len (sA_cons (sE_var 4) sA_nil)) (sE_var 1)))) (fun _ _ _ _ _ => (sE_var 4)))))))
theorem ok_lots_of (Z : Fx K mg base) : Kept P w K mg base (gam w K Λ) 1 (He.fAd K ("lots_of", none)) ["many", "size"] 2 m_lots_of := by
  obtain ⟨fd, F⟩ := Z.c.def_ 25 (d := d_lots_of) rfl
  exact Kept.mk' F S_lots_of rfl (fun _ _ _ _ _ _ us hl => match us, hl with | [_, _], _ => rfl) fun cdv A outer s H E hr => bd_lots_of Z hr
/-! met_by -/
def N_met_by : List Str := ["rows", "wide", "under", "row", "found", "at", "sign", "one"]
theorem S_met_by : FnScope N_met_by ["rows", "wide"] (d_met_by).scope := ⟨rfl, rfl, rfl, by decide +kernel, rfl, by decide +kernel, by decide +kernel⟩
def b_met_by : MS := (mSeq (mSet 2 (mCall 1 (iso m_determinant) [] (mCons (mLc (mIA (mVar 0)) [3] (agN 3) mYes (mSl (mVar 3) none (some (mVar 1)))) mNil))) (mSeq (mIfS (mTst (mOp eqT (mVar 2) (mC (.int 0)))) (mRet (mC .non)) mNext) (mSeq (mSet 4 (mLstM mNil)) (mSeq (mFor (mIR1 (mCons (mVar 1) mNil)) (agN 5) (mExpr (mMet isL appendT (mVar 4) (mCons (mCall 1 (iso m_determinant) [] (mCons (mLc (mIA (mVar 0)) [3] (agN 3) mYes (mOp addT (mOp addT (mSl (mVar 3) none (some (mVar 5))) (mTup (mCons (mOp subT (mC (.int 0)) (mOp ixT (mVar 3) (mVar 1))) mNil))) (mSl (mVar 3) (some (mOp addT (mVar 5) (mC (.int 1)))) (some (mVar 1))))) mNil)) mNil)))) (mSeq (mSet 6 (mIf (mTst (mOp (cmpI fun i j => decide (j < i)) (mVar 2) (mC (.int 0)))) (mC (.int 1)) (mNeg (mC (.int 1))))) (mRet (mCall 1 (iso m_reduced) [] (mCons (mOp addT (mLc (mIA (mVar 4)) [7] (agN 7) mYes (mOp mulT (mVar 6) (mVar 7))) (mLst (mCons (mOp mulT (mVar 6) (mVar 2)) mNil))) mNil))))))))
def m_met_by : MF := mDef 8 b_met_by
theorem bd_met_by (Z : Fx K mg base) {cdv : Value} {A : Around} {outer : List Env} {s : Shared} {H : Hp} {E : XK} (hr : Room 8 (A.deeper (envOfC d_met_by.qual d_met_by.scope s.heap.objs.size (He.fAd K ("met_by", none)) cdv))) :
    SSs (gam w K Λ) (cxOf (L2.CX P w) P w K mg base N_met_by d_met_by.qual d_met_by.scope (He.fAd K ("met_by", none)) cdv A outer s H E) (fun cls d _ H => E cls d H) d_met_by.body b_met_by :=
  (sSs_cons (sS_set 2 (sE_kallI (ok_determinant Z) takesF hr (by decide) Z.g_determinant (sA_cons (sE_lc (sI_any rfl (sE_var 0)) (S_met_by).nd (blkOk_by (own := [("row", 3)]) (by rfl)) (fun _ _ _ _ _ => (sG_name 3 (S_met_by).nd)) (fun _ _ _ _ _ => sTs_nil) (fun _ _ _ _ _ => (sE_sl rfl (sE_var 3) sP_none (sP_some (sE_var 1))))) sA_nil)) (S_met_by).nd) (sSs_cons (sS_if (sT_cmp (op_eqA hr.units) ok_eq (sE_var 2) sE_int) (sSs_one (sS_ret sE_non)) sSs_nil) (sSs_cons (sS_set 4 (sE_lstM sA_nil) (S_met_by).nd) (sSs_cons (sS_for (sI_rng1 Z.f_range (sA_cons (sE_var 1) sA_nil)) (sG_name 5 (S_met_by).nd) (sSs_one (sS_expr (sE_met PySem.F.plainAttrs_list PySem.F.slot_list_append PySem.F.type_list_append mt_append ok_append ty_list (sE_var 4) (sA_cons (sE_kallI (ok_determinant Z) takesF hr (by decide) Z.g_determinant (sA_cons (sE_lc (sI_any rfl (sE_var 0)) (S_met_by).nd (blkOk_by (own := [("row", 3)]) (by rfl)) (fun _ _ _ _ _ => (sG_name 3 (S_met_by).nd)) (fun _ _ _ _ _ => sTs_nil) (fun _ _ _ _ _ => (sE_op op_addA ok_add (sE_op op_addA ok_add (sE_sl rfl (sE_var 3) sP_none (sP_some (sE_var 5))) (sE_tup (sA_cons (sE_op op_sub ok_sub sE_int (sE_ix (sE_var 3) (sE_var 1) rfl)) sA_nil))) (sE_sl rfl (sE_var 3) (sP_some (sE_op op_addA ok_add (sE_var 5) sE_int)) (sP_some (sE_var 1)))))) sA_nil)) sA_nil)))) passF) (sSs_cons (sS_set 6 (sE_if (sT_cmp op_gt ok_cmpI (sE_var 2) sE_int) sE_int (sE_neg sE_int)) (S_met_by).nd) (sSs_one (sS_ret (sE_kallI (ok_reduced Z) takesF hr (by decide) Z.g_reduced (sA_cons (sE_op op_addA ok_add (sE_lc (sI_any rfl (sE_var 4)) (S_met_by).nd (blkOk_by (own := [("one", 7)]) (by rfl)) (fun _ _ _ _ _ => (sG_name 7 (S_met_by).nd)) (fun _ _ _ _ _ => sTs_nil) (fun _ _ _ _ _ => (sE_op op_mulA ok_mul (sE_var 6) (sE_var 7)))) (sE_lst (sA_cons (sE_op op_mulA ok_mul (sE_var 6) (sE_var 2)) sA_nil))) sA_nil)))))))))
theorem ok_met_by (Z : Fx K mg base) : Kept P w K mg base (gam w K Λ) 9 (He.fAd K ("met_by", none)) ["rows", "wide"] 2 m_met_by := by
  obtain ⟨fd, F⟩ := Z.c.def_ 26 (d := d_met_by) rfl
  exact Kept.mk' F S_met_by rfl (fun _ _ _ _ _ _ us hl => match us, hl with | [_, _], _ => rfl) fun cdv A outer s H E hr => bd_met_by Z hr
/-! corners_by -/
def N_corners_by : List Str := ["rows", "wide", "found", "lot", "corner", "at", "row"]
theorem S_corners_by : FnScope N_corners_by ["rows", "wide"] (d_corners_by).scope := ⟨rfl, rfl, rfl, by decide +kernel, rfl, by decide +kernel, by decide +kernel⟩
def b_corners_by : MS := (mSeq (mSet 2 mD0Q) (mSeq (mFor (mIA (mCall 2 (iso m_lots_of) [] (mCons (mCB lenB (mCons (mVar 0) mNil)) (mCons (mVar 1) mNil)))) (agN 3) (mSeq (mSet 4 (mCall 2 (iso m_met_by) [] (mCons (mLc (mIA (mVar 3)) [5] (agN 5) mYes (mOp ixT (mVar 0) (mVar 5))) (mCons (mVar 1) mNil)))) (mIfS (mAnd (mTst (mOp (isN false) (mVar 4) (mC .non))) (mAnd (mTst (mOp (dinQ true) (mVar 4) (mVar 2))) (mTst (mCB (anyB true) (mCons (mLc (mIA (mVar 0)) [6] (agN 6) mYes (mOp (cmpI fun i j => decide (i ≤ j)) (mCall 2 (iso m_value_at) [] (mCons (mVar 6) (mCons (mVar 4) mNil))) (mC (.int 0)))) mNil))))) (mDputQ (mVar 2) (mVar 4) (mC (.bl true))) mNext))) (mRet (mCB listQ (mCons (mVar 2) mNil)))))
def m_corners_by : MF := mDef 7 b_corners_by
theorem bd_corners_by (Z : Fx K mg base) {cdv : Value} {A : Around} {outer : List Env} {s : Shared} {H : Hp} {E : XK} (hr : Room 9 (A.deeper (envOfC d_corners_by.qual d_corners_by.scope s.heap.objs.size (He.fAd K ("corners_by", none)) cdv))) :
    SSs (gam w K Λ) (cxOf (L2.CX P w) P w K mg base N_corners_by d_corners_by.qual d_corners_by.scope (He.fAd K ("corners_by", none)) cdv A outer s H E) (fun cls d _ H => E cls d H) d_corners_by.body b_corners_by :=
  (sSs_cons (sS_set 2 sE_d0Q (S_corners_by).nd) (sSs_cons (sS_for (sI_any rfl (sE_kallI (ok_lots_of Z) takesF hr (by decide) Z.g_lots_of (sA_cons (sE_callB call_lenA ok_len Z.f_len boot_len (sA_cons (sE_var 0) sA_nil)) (sA_cons (sE_var 1) sA_nil)))) (sG_name 3 (S_corners_by).nd) (sSs_cons (sS_set 4 (sE_kallI (ok_met_by Z) takesF hr (by decide) Z.g_met_by (sA_cons (sE_lc (sI_any rfl (sE_var 3)) (S_corners_by).nd (blkOk_by (own := [("at", 5)]) (by rfl)) (fun _ _ _ _ _ => (sG_name 5 (S_corners_by).nd)) (fun _ _ _ _ _ => sTs_nil) (fun _ _ _ _ _ => (sE_ix (sE_var 0) (sE_var 5) rfl))) (sA_cons (sE_var 1) sA_nil))) (S_corners_by).nd) (sSs_one (sS_if (sT_w (sW_and (sT_cmp op_notN ok_notN (sE_var 4) sE_non) (sW_and (sT_dnotinQ (by have := hr.units; exact ur1 this) (sE_var 4) (sE_var 2)) (sW_and1 (sT_val (sE_callB (cr_all rfl) ok_all Z.f_all boot_all (sA_cons (sE_lc (sI_any rfl (sE_var 0)) (S_corners_by).nd (blkOk_by (own := [("row", 6)]) (by rfl)) (fun _ _ _ _ _ => (sG_name 6 (S_corners_by).nd)) (fun _ _ _ _ _ => sTs_nil) (fun _ _ _ _ _ => (sE_cmp op_le ok_cmpI (sE_kallI (ok_value_at Z) L2.takes0 hr (by decide) Z.g_value_at (sA_cons (sE_var 6) (sA_cons (sE_var 4) sA_nil))) sE_int))) sA_nil))))))) (sSs_one (sS_dputQ (by have := hr.units; exact ur1 this) (sE_var 2) (sE_var 4) sE_bl)) sSs_nil))) passF) (sSs_one (sS_ret (sE_callTy (call_list_dQ rfl) (ok_listQ rfl rfl) Z.f_list boot_list (sA_cons (sE_var 2) sA_nil))))))
theorem ok_corners_by (Z : Fx K mg base) : Kept P w K mg base (gam w K Λ) 10 (He.fAd K ("corners_by", none)) ["rows", "wide"] 2 m_corners_by := by
  obtain ⟨fd, F⟩ := Z.c.def_ 27 (d := d_corners_by) rfl
  exact Kept.mk' F S_corners_by rfl (fun _ _ _ _ _ _ us hl => match us, hl with | [_, _], _ => rfl) fun cdv A outer s H E hr => bd_corners_by Z hr
/-! across -/
def N_across : List Str := ["heads", "wide", "found", "sign", "at", "rest", "head"]
theorem S_across : FnScope N_across ["heads", "wide"] (d_across).scope := ⟨rfl, rfl, rfl, by decide +kernel, rfl, by decide +kernel, by decide +kernel⟩
def b_across : MS := (mSeq (mPar 2 3 (mCons (mLstM mNil) (mCons (mC (.int 1)) mNil))) (mSeq (mFor (mIR1 (mCons (mVar 1) mNil)) (agN 4) (mSeq (mSet 5 (mLc (mIA (mVar 0)) [6] (agN 6) mYes (mOp addT (mSl (mVar 6) none (some (mVar 4))) (mSl (mVar 6) (some (mOp addT (mVar 4) (mC (.int 1)))) none)))) (mSeq (mExpr (mMet isL appendT (mVar 2) (mCons (mOp mulT (mVar 3) (mIf (mTst (mOp neT (mVar 5) (mLst mNil))) (mCall 1 (iso m_determinant) [] (mCons (mVar 5) mNil)) (mC (.int 1)))) mNil))) (mSet 3 (mOp subT (mC (.int 0)) (mVar 3)))))) (mRet (mCB tupleB (mCons (mVar 2) mNil)))))
def m_across : MF := mDef 7 b_across
theorem bd_across (Z : Fx K mg base) {cdv : Value} {A : Around} {outer : List Env} {s : Shared} {H : Hp} {E : XK} (hr : Room 8 (A.deeper (envOfC d_across.qual d_across.scope s.heap.objs.size (He.fAd K ("across", none)) cdv))) :
    SSs (gam w K Λ) (cxOf (L2.CX P w) P w K mg base N_across d_across.qual d_across.scope (He.fAd K ("across", none)) cdv A outer s H E) (fun cls d _ H => E cls d H) d_across.body b_across :=
  (sSs_cons (sS_par 2 3 (sA_cons (sE_lstM sA_nil) (sA_cons sE_int sA_nil)) (S_across).nd) (sSs_cons (sS_for (sI_rng1 Z.f_range (sA_cons (sE_var 1) sA_nil)) (sG_name 4 (S_across).nd) (sSs_cons (sS_setLc 5 (sI_any rfl (sE_var 0)) (S_across).nd (blkOk_by (own := [("head", 6)]) (by rfl)) (fun _ _ _ _ _ => (sG_name 6 (S_across).nd)) (fun _ _ _ _ _ => sTs_nil) (fun _ _ _ _ _ => (sE_op op_addA ok_add (sE_sl rfl (sE_var 6) sP_none (sP_some (sE_var 4))) (sE_sl rfl (sE_var 6) (sP_some (sE_op op_addA ok_add (sE_var 4) sE_int)) sP_none)))) (sSs_cons (sS_expr (sE_met PySem.F.plainAttrs_list PySem.F.slot_list_append PySem.F.type_list_append mt_append ok_append ty_list (sE_var 2) (sA_cons (sE_op op_mulA ok_mul (sE_var 3) (sE_if (sT_cmp (op_neA hr.units) ok_ne (sE_var 5) (sE_lst sA_nil)) (sE_kallI (ok_determinant Z) takesF hr (by decide) Z.g_determinant (sA_cons (sE_var 5) sA_nil)) sE_int)) sA_nil))) (sSs_one (sS_set 3 (sE_op op_sub ok_sub sE_int (sE_var 3)) (S_across).nd)))) passF) (sSs_one (sS_ret (sE_callTy call_tupF ok_tuple Z.f_tuple boot_tuple (sA_cons (sE_var 2) sA_nil))))))
theorem ok_across (Z : Fx K mg base) : Kept P w K mg base (gam w K Λ) 9 (He.fAd K ("across", none)) ["heads", "wide"] 2 m_across := by
  obtain ⟨fd, F⟩ := Z.c.def_ 29 (d := d_across) rfl
  exact Kept.mk' F S_across rfl (fun _ _ _ _ _ _ us hl => match us, hl with | [_, _], _ => rfl) fun cdv A outer s H E hr => bd_across Z hr
/-! is_open -/
def N_is_open : List Str := ["rows", "wide", "heads", "row", "lot", "way", "at", "sign", "head"]
theorem S_is_open : FnScope N_is_open ["rows", "wide"] (d_is_open).scope := ⟨rfl, rfl, rfl, by decide +kernel, rfl, by decide +kernel, by decide +kernel⟩
def b_is_open : MS := (mSeq (mSet 2 (mLc (mIA (mVar 0)) [3] (agN 3) mYes (mSl (mVar 3) none (some (mVar 1))))) (mSeq (mIfS (mTst (mOp ltT (mCall 1 (iso m_rank_of) [] (mCons (mVar 2) mNil)) (mVar 1))) (mRet (mC (.bl true))) mNext) (mSeq (mFor (mIA (mCall 2 (iso m_lots_of) [] (mCons (mCB lenB (mCons (mVar 0) mNil)) (mCons (mOp subT (mVar 1) (mC (.int 1))) mNil)))) (agN 4) (mSeq (mSet 5 (mCall 2 (iso m_across) [] (mCons (mLc (mIA (mVar 4)) [6] (agN 6) mYes (mOp ixT (mVar 2) (mVar 6))) (mCons (mVar 1) mNil)))) (mFor (mIA (mTup (mCons (mC (.int 1)) (mCons (mNeg (mC (.int 1))) mNil)))) (agN 7) (mIfS (mAnd (mTst (mCB anyX (mCons (mVar 5) mNil))) (mTst (mCB (anyB true) (mCons (mLc (mIA (mVar 2)) [8] (agN 8) mYes (mOp (cmpI fun i j => decide (i ≤ j)) (mOp mulT (mVar 7) (mCall 2 (iso m_value_at) [] (mCons (mVar 8) (mCons (mVar 5) mNil)))) (mC (.int 0)))) mNil)))) (mRet (mC (.bl true))) mNext)))) (mRet (mC (.bl false))))))
def m_is_open : MF := mDef 9 b_is_open
theorem bd_is_open (Z : Fx K mg base) {cdv : Value} {A : Around} {outer : List Env} {s : Shared} {H : Hp} {E : XK} (hr : Room 9 (A.deeper (envOfC d_is_open.qual d_is_open.scope s.heap.objs.size (He.fAd K ("is_open", none)) cdv))) :
    SSs (gam w K Λ) (cxOf (L2.CX P w) P w K mg base N_is_open d_is_open.qual d_is_open.scope (He.fAd K ("is_open", none)) cdv A outer s H E) (fun cls d _ H => E cls d H) d_is_open.body b_is_open :=
  (sSs_cons (sS_set 2 (sE_lc (sI_any rfl (sE_var 0)) (S_is_open).nd (blkOk_by (own := [("row", 3)]) (by rfl)) (fun _ _ _ _ _ => (sG_name 3 (S_is_open).nd)) (fun _ _ _ _ _ => sTs_nil) (fun _ _ _ _ _ => (sE_sl rfl (sE_var 3) sP_none (sP_some (sE_var 1))))) (S_is_open).nd) (sSs_cons (sS_if (sT_cmp op_ltA ok_lt (sE_kallI (ok_rank_of Z) takesF hr (by decide) Z.g_rank_of (sA_cons (sE_var 2) sA_nil)) (sE_var 1)) (sSs_one (sS_ret sE_bl)) sSs_nil) (sSs_cons (sS_for (sI_any rfl (sE_kallI (ok_lots_of Z) takesF hr (by decide) Z.g_lots_of (sA_cons (sE_callB call_lenA ok_len Z.f_len boot_len (sA_cons (sE_var 0) sA_nil)) (sA_cons (sE_op op_sub ok_sub (sE_var 1) sE_int) sA_nil)))) (sG_name 4 (S_is_open).nd) (sSs_cons (sS_set 5 (sE_kallI (ok_across Z) takesF hr (by decide) Z.g_across (sA_cons (sE_lc (sI_any rfl (sE_var 4)) (S_is_open).nd (blkOk_by (own := [("at", 6)]) (by rfl)) (fun _ _ _ _ _ => (sG_name 6 (S_is_open).nd)) (fun _ _ _ _ _ => sTs_nil) (fun _ _ _ _ _ => (sE_ix (sE_var 2) (sE_var 6) rfl))) (sA_cons (sE_var 1) sA_nil))) (S_is_open).nd) (sSs_one (sS_for (sI_any rfl (sE_tup (sA_cons sE_int (sA_cons (sE_neg sE_int) sA_nil)))) (sG_name 7 (S_is_open).nd) (sSs_one (sS_if (sT_w (sW_and (sT_val (sE_callB (cr_anyX rfl) ok_anyX Z.f_any boot_any (sA_cons (sE_var 5) sA_nil))) (sW_and1 (sT_val (sE_callB (cr_all rfl) ok_all Z.f_all boot_all (sA_cons (sE_lc (sI_any rfl (sE_var 2)) (S_is_open).nd (blkOk_by (own := [("head", 8)]) (by rfl)) (fun _ _ _ _ _ => (sG_name 8 (S_is_open).nd)) (fun _ _ _ _ _ => sTs_nil) (fun _ _ _ _ _ => (sE_cmp op_le ok_cmpI (sE_op op_mulA ok_mul (sE_var 7) (sE_kallI (ok_value_at Z) L2.takes0 hr (by decide) Z.g_value_at (sA_cons (sE_var 8) (sA_cons (sE_var 5) sA_nil)))) sE_int))) sA_nil)))))) (sSs_one (sS_ret sE_bl)) sSs_nil)) passF))) passF) (sSs_one (sS_ret sE_bl)))))
theorem ok_is_open (Z : Fx K mg base) : Kept P w K mg base (gam w K Λ) 10 (He.fAd K ("is_open", none)) ["rows", "wide"] 2 m_is_open := by
  obtain ⟨fd, F⟩ := Z.c.def_ 28 (d := d_is_open) rfl
  exact Kept.mk' F S_is_open rfl (fun _ _ _ _ _ _ us hl => match us, hl with | [_, _], _ => rfl) fun cdv A outer s H E hr => bd_is_open Z hr
/-! without_idle -/
def N_without_idle : List Str := ["rows", "wide", "found", "row"]
theorem S_without_idle : FnScope N_without_idle ["rows", "wide"] (d_without_idle).scope := ⟨rfl, rfl, rfl, by decide +kernel, rfl, by decide +kernel, by decide +kernel⟩
def b_without_idle : MS := (mSeq (mSet 2 (mLstM mNil)) (mSeq (mFor (mIA (mVar 0)) (agN 3) (mIfS (mTst (mCB anyX (mCons (mSl (mVar 3) none (some (mVar 1))) mNil))) (mIfS (mTst (mOp (inDT true) (mVar 3) (mVar 2))) (mExpr (mMet isL appendT (mVar 2) (mCons (mVar 3) mNil))) mNext) (mIfS (mTst (mOp (cmpI fun i j => decide (j < i)) (mOp ixT (mVar 3) (mVar 1)) (mC (.int 0)))) (mRet (mC .non)) mNext))) (mRet (mVar 2))))
def m_without_idle : MF := mDef 4 b_without_idle
theorem bd_without_idle (Z : Fx K mg base) {cdv : Value} {A : Around} {outer : List Env} {s : Shared} {H : Hp} {E : XK} (hr : Room 0 (A.deeper (envOfC d_without_idle.qual d_without_idle.scope s.heap.objs.size (He.fAd K ("without_idle", none)) cdv))) :
    SSs (gam w K Λ) (cxOf (L2.CX P w) P w K mg base N_without_idle d_without_idle.qual d_without_idle.scope (He.fAd K ("without_idle", none)) cdv A outer s H E) (fun cls d _ H => E cls d H) d_without_idle.body b_without_idle :=
  (sSs_cons (sS_set 2 (sE_lstM sA_nil) (S_without_idle).nd) (sSs_cons (sS_for (sI_any rfl (sE_var 0)) (sG_name 3 (S_without_idle).nd) (sSs_one (sS_if (sT_val (sE_callB (cr_anyX rfl) ok_anyX Z.f_any boot_any (sA_cons (sE_sl rfl (sE_var 3) sP_none (sP_some (sE_var 1))) sA_nil))) (sSs_one (sS_if (sT_cmp (op_notInX (ur65 hr)) (ok_inX true) (sE_var 3) (sE_var 2)) (sSs_one (sS_expr (sE_met PySem.F.plainAttrs_list PySem.F.slot_list_append PySem.F.type_list_append mt_append ok_append ty_list (sE_var 2) (sA_cons (sE_var 3) sA_nil)))) sSs_nil)) (sSs_one (sS_if (sT_cmp op_gt ok_cmpI (sE_ix (sE_var 3) (sE_var 1) rfl) sE_int) (sSs_one (sS_ret sE_non)) sSs_nil)))) passF) (sSs_one (sS_ret (sE_var 2)))))
theorem ok_without_idle (Z : Fx K mg base) : Kept P w K mg base (gam w K Λ) 1 (He.fAd K ("without_idle", none)) ["rows", "wide"] 2 m_without_idle := by
  obtain ⟨fd, F⟩ := Z.c.def_ 30 (d := d_without_idle) rfl
  exact Kept.mk' F S_without_idle rfl (fun _ _ _ _ _ _ us hl => match us, hl with | [_, _], _ => rfl) fun cdv A outer s H E hr => bd_without_idle Z hr
/-! bounded_rows -/
def N_bounded_rows : List Str := ["rows", "wide", "some", "all_corners", "found", "row", "on_it", "corner"]
theorem S_bounded_rows : FnScope N_bounded_rows ["rows", "wide"] (d_bounded_rows).scope := ⟨rfl, rfl, rfl, by decide +kernel, rfl, by decide +kernel, by decide +kernel⟩
def b_bounded_rows : MS := (mSeq (mSet 2 (mCall 2 (iso m_without_idle) [] (mCons (mVar 0) (mCons (mVar 1) mNil)))) (mSeq (mIfS (mTst (mOp (isN true) (mVar 2) (mC .non))) (mRet (mC .non)) mNext) (mSeq (mSet 3 (mCall 2 (iso m_corners_by) [] (mCons (mVar 2) (mCons (mVar 1) mNil)))) (mSeq (mIfS (mTst (mOp (cmpI fun i j => decide (i ≤ j)) (mCall 1 (iso m_rank_of) [] (mCons (mVar 3) mNil)) (mVar 1))) (mRet (mC .non)) mNext) (mSeq (mSet 4 (mLstM mNil)) (mSeq (mFor (mIA (mVar 2)) (agN 5) (mSeq (mSet 6 (mLc (mIA (mVar 3)) [7] (agN 7) (mTst (mOp eqT (mCall 2 (iso m_value_at) [] (mCons (mVar 5) (mCons (mVar 7) mNil))) (mC (.int 0)))) (mVar 7))) (mIfS (mAnd (mTst (mOp neT (mVar 6) (mLst mNil))) (mTst (mOp eqT (mCall 1 (iso m_rank_of) [] (mCons (mVar 6) mNil)) (mVar 1)))) (mExpr (mMet isL appendT (mVar 4) (mCons (mVar 5) mNil))) mNext))) (mRet (mVar 4))))))))
def m_bounded_rows : MF := mDef 8 b_bounded_rows
theorem bd_bounded_rows (Z : Fx K mg base) {cdv : Value} {A : Around} {outer : List Env} {s : Shared} {H : Hp} {E : XK} (hr : Room 10 (A.deeper (envOfC d_bounded_rows.qual d_bounded_rows.scope s.heap.objs.size (He.fAd K ("bounded_rows", none)) cdv))) :
    SSs (gam w K Λ) (cxOf (L2.CX P w) P w K mg base N_bounded_rows d_bounded_rows.qual d_bounded_rows.scope (He.fAd K ("bounded_rows", none)) cdv A outer s H E) (fun cls d _ H => E cls d H) d_bounded_rows.body b_bounded_rows :=
  (sSs_cons (sS_set 2 (sE_kallI (ok_without_idle Z) takesF hr (by decide) Z.g_without_idle (sA_cons (sE_var 0) (sA_cons (sE_var 1) sA_nil))) (S_bounded_rows).nd) (sSs_cons (sS_if (sT_cmp op_isN ok_isN (sE_var 2) sE_non) (sSs_one (sS_ret sE_non)) sSs_nil) (sSs_cons (sS_set 3 (sE_kallI (ok_corners_by Z) takesF hr (by decide) Z.g_corners_by (sA_cons (sE_var 2) (sA_cons (sE_var 1) sA_nil))) (S_bounded_rows).nd) (sSs_cons (sS_if (sT_cmp op_le ok_cmpI (sE_kallI (ok_rank_of Z) takesF hr (by decide) Z.g_rank_of (sA_cons (sE_var 3) sA_nil)) (sE_var 1)) (sSs_one (sS_ret sE_non)) sSs_nil) (sSs_cons (sS_set 4 (sE_lstM sA_nil) (S_bounded_rows).nd) (sSs_cons (sS_for (sI_any rfl (sE_var 2)) (sG_name 5 (S_bounded_rows).nd) (sSs_cons (sS_setLc 6 (sI_any rfl (sE_var 3)) (S_bounded_rows).nd (blkOk_by (own := [("corner", 7)]) (by rfl)) (fun _ _ _ _ _ => (sG_name 7 (S_bounded_rows).nd)) (fun _ _ _ _ _ => (sTs_one (sT_cmp (op_eqA hr.units) ok_eq (sE_kallI (ok_value_at Z) L2.takes0 hr (by decide) Z.g_value_at (sA_cons (sE_var 5) (sA_cons (sE_var 7) sA_nil))) sE_int))) (fun _ _ _ _ _ => (sE_var 7))) (sSs_one (sS_if (sT_w (sW_and (sT_cmp (op_neA hr.units) ok_ne (sE_var 6) (sE_lst sA_nil)) (sW_and1 (sT_cmp (op_eqA hr.units) ok_eq (sE_kallI (ok_rank_of Z) takesF hr (by decide) Z.g_rank_of (sA_cons (sE_var 6) sA_nil)) (sE_var 1))))) (sSs_one (sS_expr (sE_met PySem.F.plainAttrs_list PySem.F.slot_list_append PySem.F.type_list_append mt_append ok_append ty_list (sE_var 4) (sA_cons (sE_var 5) sA_nil)))) sSs_nil))) passF) (sSs_one (sS_ret (sE_var 4)))))))))
theorem ok_bounded_rows (Z : Fx K mg base) : Kept P w K mg base (gam w K Λ) 11 (He.fAd K ("bounded_rows", none)) ["rows", "wide"] 2 m_bounded_rows := by
  obtain ⟨fd, F⟩ := Z.c.def_ 31 (d := d_bounded_rows) rfl
  exact Kept.mk' F S_bounded_rows rfl (fun _ _ _ _ _ _ us hl => match us, hl with | [_, _], _ => rfl) fun cdv A outer s H E hr => bd_bounded_rows Z hr
/-! are_lines -/
def N_are_lines : List Str := ["marks", "thing", "line", "name", "some"]
theorem S_are_lines : FnScope N_are_lines ["marks", "thing"] (d_are_lines).scope := ⟨rfl, rfl, rfl, by decide +kernel, rfl, by decide +kernel, by decide +kernel⟩
def b_are_lines : MS := (mSeq (mIfS (mOr (mNot (mTst (mCB (isiB isa) (mCons (mVar 1) (mCons (mC (.ty "tuple")) mNil))))) (mTst (mOp (cmpI fun i j => decide (j < i)) (mCB lenB (mCons (mVar 1) mNil)) (mC c_MOST_LINES)))) (mRet (mC (.bl false))) mNext) (mSeq (mIfS (mNot (mTst (mCB (anyB true) (mCons (mLc (mIA (mVar 1)) [2] (agN 2) mYes (mAndV (mCall 1 (iso m_is_line) [] (mCons (mVar 2) mNil)) (mOp eqT (mOp ixT (mVar 2) (mC (.int 1))) (mC (.str "<="))))) mNil)))) (mRet (mC (.bl false))) mNext) (mRet (mCB (anyB true) (mCons (mLc2 (mIA (mVar 1)) [2, 3, 4] (agN 2) mYes (mIA (mOp ixT (mOp ixT (mVar 2) (mC (.int 0))) (mC (.int 0)))) [3, 4] (agT 2 (agCons (agN 3) (agCons (agN 4) agNil))) mYes (mOp (inT false) (mVar 3) (mVar 0))) mNil)))))
def m_are_lines : MF := mDef 5 b_are_lines
theorem bd_are_lines (Z : Fx K mg base) {cdv : Value} {A : Around} {outer : List Env} {s : Shared} {H : Hp} {E : XK} (hr : Room 5 (A.deeper (envOfC d_are_lines.qual d_are_lines.scope s.heap.objs.size (He.fAd K ("are_lines", none)) cdv))) :
    SSs (gam w K Λ) (cxOf (L2.CX P w) P w K mg base N_are_lines d_are_lines.qual d_are_lines.scope (He.fAd K ("are_lines", none)) cdv A outer s H E) (fun cls d _ H => E cls d H) d_are_lines.body b_are_lines :=
  (sSs_cons (sS_if (sT_w (sW_or (sT_not (sT_val (sE_callB call_isA (ok_isi Z.isaZ) Z.f_isinstance boot_isinstance (sA_cons (sE_var 1) (sA_cons (sE_ty "tuple" Z.f_tuple boot_tuple) sA_nil))))) (sW_or1 (sT_cmp op_gt ok_cmpI (sE_callB call_lenA ok_len Z.f_len boot_len (sA_cons (sE_var 1) sA_nil)) (sE_con rfl Z.k_MOST_LINES))))) (sSs_one (sS_ret sE_bl)) sSs_nil) (sSs_cons (sS_if (sT_not (sT_val (sE_callB (cr_all rfl) ok_all Z.f_all boot_all (sA_cons (sE_lc (sI_any rfl (sE_var 1)) (S_are_lines).nd (blkOk_by (own := [("line", 2)]) (by rfl)) (fun _ _ _ _ _ => (sG_name 2 (S_are_lines).nd)) (fun _ _ _ _ _ => sTs_nil) (fun _ _ _ _ _ => (sE_and (sE_kallI (ok_is_line Z) L2.takes0 hr (by decide) Z.g_is_line (sA_cons (sE_var 2) sA_nil)) (sE_and1 (sE_cmp (op_eqA hr.units) ok_eq (sE_ix (sE_var 2) sE_int rfl) sE_str))))) sA_nil)))) (sSs_one (sS_ret sE_bl)) sSs_nil) (sSs_one (sS_ret (sE_callB (cr_all rfl) ok_all Z.f_all boot_all (sA_cons (sE_lc2 (sI_any rfl (sE_var 1)) (S_are_lines).nd (blkOk_by (own := [("line", 2), ("name", 3), ("some", 4)]) (by rfl)) (fun _ _ _ _ _ => (sG_more (sG_name 2 (S_are_lines).nd) (by decide))) (fun _ _ _ _ _ => sTs_nil) (fun _ _ _ _ _ => (sI_any rfl (sE_ix (sE_ix (sE_var 2) sE_int rfl) sE_int rfl))) (fun _ _ _ _ _ => (sG_tup rfl (sGs_cons (sG_name 3 (S_are_lines).nd) (sGs_cons (sG_name 4 (S_are_lines).nd) sGs_nil)))) (fun _ _ _ _ _ => sTs_nil) (fun _ _ _ _ _ => (sE_cmp op_inA (ok_in false) (sE_var 3) (sE_var 0)))) sA_nil))))))
theorem ok_are_lines (Z : Fx K mg base) : Kept P w K mg base (gam w K Λ) 6 (He.fAd K ("are_lines", none)) ["marks", "thing"] 2 m_are_lines := by
  obtain ⟨fd, F⟩ := Z.c.def_ 32 (d := d_are_lines) rfl
  exact Kept.mk' F S_are_lines rfl (fun _ _ _ _ _ _ us hl => match us, hl with | [_, _], _ => rfl) fun cdv A outer s H E hr => bd_are_lines Z hr
/-! cell_of -/
def N_cell_of : List Str := ["marks", "lines", "rows", "found"]
theorem S_cell_of : FnScope N_cell_of ["marks", "lines"] (d_cell_of).scope := ⟨rfl, rfl, rfl, by decide +kernel, rfl, by decide +kernel, by decide +kernel⟩
def b_cell_of : MS := (mSeq (mExpr (mCall 1 (iso m_need_marks) [] (mCons (mVar 0) mNil))) (mSeq (mIfS (mNot (mTst (mCall 2 (iso m_are_lines) [] (mCons (mVar 0) (mCons (mVar 1) mNil))))) (mRaise0 3) mNext) (mSeq (mSet 2 (mCall 2 (iso m_rows_of) [] (mCons (mVar 0) (mCons (mVar 1) mNil)))) (mSeq (mIfS (mTst (mCall 2 (iso m_is_open) [] (mCons (mVar 2) (mCons (mCB lenB (mCons (mVar 0) mNil)) mNil)))) (mRaise0 3) mNext) (mSeq (mSet 3 (mCall 2 (iso m_bounded_rows) [] (mCons (mVar 2) (mCons (mCB lenB (mCons (mVar 0) mNil)) mNil)))) (mRet (mIf (mTst (mOp (isN true) (mVar 3) (mC .non))) (mC .non) (mCall 2 (iso m_sides_of) [] (mCons (mVar 0) (mCons (mVar 3) mNil))))))))))
def m_cell_of : MF := mDef 4 b_cell_of
theorem bd_cell_of (Z : Fx K mg base) {cdv : Value} {A : Around} {outer : List Env} {s : Shared} {H : Hp} {E : XK} (hr : Room 11 (A.deeper (envOfC d_cell_of.qual d_cell_of.scope s.heap.objs.size (He.fAd K ("cell_of", none)) cdv))) :
    SSs (gam w K Λ) (cxOf (L2.CX P w) P w K mg base N_cell_of d_cell_of.qual d_cell_of.scope (He.fAd K ("cell_of", none)) cdv A outer s H E) (fun cls d _ H => E cls d H) d_cell_of.body b_cell_of :=
  (sSs_cons (sS_expr (sE_kallI (ok_need_marks Z) takesF hr (by decide) Z.g_need_marks (sA_cons (sE_var 0) sA_nil))) (sSs_cons (sS_if (sT_not (sT_val (sE_kallI (ok_are_lines Z) takesF hr (by decide) Z.g_are_lines (sA_cons (sE_var 0) (sA_cons (sE_var 1) sA_nil))))) (sSs_one (Z.raise_NoCell takesF)) sSs_nil) (sSs_cons (sS_set 2 (sE_kallI (ok_rows_of Z) takesF hr (by decide) Z.g_rows_of (sA_cons (sE_var 0) (sA_cons (sE_var 1) sA_nil))) (S_cell_of).nd) (sSs_cons (sS_if (sT_val (sE_kallI (ok_is_open Z) takesF hr (by decide) Z.g_is_open (sA_cons (sE_var 2) (sA_cons (sE_callB call_lenA ok_len Z.f_len boot_len (sA_cons (sE_var 0) sA_nil)) sA_nil)))) (sSs_one (Z.raise_NoCell takesF)) sSs_nil) (sSs_cons (sS_set 3 (sE_kallI (ok_bounded_rows Z) takesF hr (by decide) Z.g_bounded_rows (sA_cons (sE_var 2) (sA_cons (sE_callB call_lenA ok_len Z.f_len boot_len (sA_cons (sE_var 0) sA_nil)) sA_nil))) (S_cell_of).nd) (sSs_one (sS_ret (sE_if (sT_cmp op_isN ok_isN (sE_var 3) sE_non) sE_non (sE_kallI (ok_sides_of Z) takesF hr (by decide) Z.g_sides_of (sA_cons (sE_var 0) (sA_cons (sE_var 3) sA_nil)))))))))))
theorem ok_cell_of (Z : Fx K mg base) : Kept P w K mg base (gam w K Λ) 12 (He.fAd K ("cell_of", none)) ["marks", "lines"] 2 m_cell_of := by
  obtain ⟨fd, F⟩ := Z.c.def_ 33 (d := d_cell_of) rfl
  exact Kept.mk' F S_cell_of rfl (fun _ _ _ _ _ _ us hl => match us, hl with | [_, _], _ => rfl) fun cdv A outer s H E hr => bd_cell_of Z hr
/-! is_cell -/
def N_is_cell : List Str := ["marks", "thing", "line", "name", "some", "rows", "found"]
theorem S_is_cell : FnScope N_is_cell ["marks", "thing"] (d_is_cell).scope := ⟨rfl, rfl, rfl, by decide +kernel, rfl, by decide +kernel, by decide +kernel⟩
def b_is_cell : MS := (mSeq (mExpr (mCall 1 (iso m_need_marks) [] (mCons (mVar 0) mNil))) (mSeq (mIfS (mOr (mNot (mTst (mCB (isiB isa) (mCons (mVar 1) (mCons (mC (.ty "tuple")) mNil))))) (mNot (mTst (mCB (anyB true) (mCons (mLc (mIA (mVar 1)) [2] (agN 2) mYes (mAndV (mCall 1 (iso m_is_line) [] (mCons (mVar 2) mNil)) (mOp eqT (mOp ixT (mVar 2) (mC (.int 1))) (mC (.str "<="))))) mNil))))) (mRet (mC (.bl false))) mNext) (mSeq (mIfS (mNot (mTst (mCB (anyB true) (mCons (mLc2 (mIA (mVar 1)) [2, 3, 4] (agN 2) mYes (mIA (mOp ixT (mOp ixT (mVar 2) (mC (.int 0))) (mC (.int 0)))) [3, 4] (agT 2 (agCons (agN 3) (agCons (agN 4) agNil))) mYes (mOp (inT false) (mVar 3) (mVar 0))) mNil)))) (mRet (mC (.bl false))) mNext) (mSeq (mSet 5 (mCall 2 (iso m_rows_of) [] (mCons (mVar 0) (mCons (mVar 1) mNil)))) (mSeq (mIfS (mTst (mCall 2 (iso m_is_open) [] (mCons (mVar 5) (mCons (mCB lenB (mCons (mVar 0) mNil)) mNil)))) (mRet (mC (.bl false))) mNext) (mSeq (mSet 6 (mCall 2 (iso m_bounded_rows) [] (mCons (mVar 5) (mCons (mCB lenB (mCons (mVar 0) mNil)) mNil)))) (mRet (mAndV (mOp (isN false) (mVar 6) (mC .non)) (mOp eqT (mCall 2 (iso m_sides_of) [] (mCons (mVar 0) (mCons (mVar 6) mNil))) (mVar 1))))))))))
def m_is_cell : MF := mDef 7 b_is_cell
theorem bd_is_cell (Z : Fx K mg base) {cdv : Value} {A : Around} {outer : List Env} {s : Shared} {H : Hp} {E : XK} (hr : Room 11 (A.deeper (envOfC d_is_cell.qual d_is_cell.scope s.heap.objs.size (He.fAd K ("is_cell", none)) cdv))) :
    SSs (gam w K Λ) (cxOf (L2.CX P w) P w K mg base N_is_cell d_is_cell.qual d_is_cell.scope (He.fAd K ("is_cell", none)) cdv A outer s H E) (fun cls d _ H => E cls d H) d_is_cell.body b_is_cell :=
  (sSs_cons (sS_expr (sE_kallI (ok_need_marks Z) takesF hr (by decide) Z.g_need_marks (sA_cons (sE_var 0) sA_nil))) (sSs_cons (sS_if (sT_w (sW_or (sT_not (sT_val (sE_callB call_isA (ok_isi Z.isaZ) Z.f_isinstance boot_isinstance (sA_cons (sE_var 1) (sA_cons (sE_ty "tuple" Z.f_tuple boot_tuple) sA_nil))))) (sW_or1 (sT_not (sT_val (sE_callB (cr_all rfl) ok_all Z.f_all boot_all (sA_cons (sE_lc (sI_any rfl (sE_var 1)) (S_is_cell).nd (blkOk_by (own := [("line", 2)]) (by rfl)) (fun _ _ _ _ _ => (sG_name 2 (S_is_cell).nd)) (fun _ _ _ _ _ => sTs_nil) (fun _ _ _ _ _ => (sE_and (sE_kallI (ok_is_line Z) L2.takes0 hr (by decide) Z.g_is_line (sA_cons (sE_var 2) sA_nil)) (sE_and1 (sE_cmp (op_eqA hr.units) ok_eq (sE_ix (sE_var 2) sE_int rfl) sE_str))))) sA_nil))))))) (sSs_one (sS_ret sE_bl)) sSs_nil) (sSs_cons (sS_if (sT_not (sT_val (sE_callB (cr_all rfl) ok_all Z.f_all boot_all (sA_cons (sE_lc2 (sI_any rfl (sE_var 1)) (S_is_cell).nd (blkOk_by (own := [("line", 2), ("name", 3), ("some", 4)]) (by rfl)) (fun _ _ _ _ _ => (sG_more (sG_name 2 (S_is_cell).nd) (by decide))) (fun _ _ _ _ _ => sTs_nil) (fun _ _ _ _ _ => (sI_any rfl (sE_ix (sE_ix (sE_var 2) sE_int rfl) sE_int rfl))) (fun _ _ _ _ _ => (sG_tup rfl (sGs_cons (sG_name 3 (S_is_cell).nd) (sGs_cons (sG_name 4 (S_is_cell).nd) sGs_nil)))) (fun _ _ _ _ _ => sTs_nil) (fun _ _ _ _ _ => (sE_cmp op_inA (ok_in false) (sE_var 3) (sE_var 0)))) sA_nil)))) (sSs_one (sS_ret sE_bl)) sSs_nil) (sSs_cons (sS_set 5 (sE_kallI (ok_rows_of Z) takesF hr (by decide) Z.g_rows_of (sA_cons (sE_var 0) (sA_cons (sE_var 1) sA_nil))) (S_is_cell).nd) (sSs_cons (sS_if (sT_val (sE_kallI (ok_is_open Z) takesF hr (by decide) Z.g_is_open (sA_cons (sE_var 5) (sA_cons (sE_callB call_lenA ok_len Z.f_len boot_len (sA_cons (sE_var 0) sA_nil)) sA_nil)))) (sSs_one (sS_ret sE_bl)) sSs_nil) (sSs_cons (sS_set 6 (sE_kallI (ok_bounded_rows Z) takesF hr (by decide) Z.g_bounded_rows (sA_cons (sE_var 5) (sA_cons (sE_callB call_lenA ok_len Z.f_len boot_len (sA_cons (sE_var 0) sA_nil)) sA_nil))) (S_is_cell).nd) (sSs_one (sS_ret (sE_and (sE_cmp op_notN ok_notN (sE_var 6) sE_non) (sE_and1 (sE_cmp (op_eqA hr.units) ok_eq (sE_kallI (ok_sides_of Z) takesF hr (by decide) Z.g_sides_of (sA_cons (sE_var 0) (sA_cons (sE_var 6) sA_nil))) (sE_var 1))))))))))))
theorem ok_is_cell (Z : Fx K mg base) : Kept P w K mg base (gam w K Λ) 12 (He.fAd K ("is_cell", none)) ["marks", "thing"] 2 m_is_cell := by
  obtain ⟨fd, F⟩ := Z.c.def_ 34 (d := d_is_cell) rfl
  exact Kept.mk' F S_is_cell rfl (fun _ _ _ _ _ _ us hl => match us, hl with | [_, _], _ => rfl) fun cdv A outer s H E hr => bd_is_cell Z hr
/-! need_cell -/
def N_need_cell : List Str := ["marks", "cell"]
theorem S_need_cell : FnScope N_need_cell ["marks", "cell"] (d_need_cell).scope := ⟨rfl, rfl, rfl, by decide +kernel, rfl, by decide +kernel, by decide +kernel⟩
def b_need_cell : MS := (mIfS (mNot (mTst (mCall 2 (iso m_is_cell) [] (mCons (mVar 0) (mCons (mVar 1) mNil))))) (mRaise0 3) mNext)
def m_need_cell : MF := mDef 2 b_need_cell
theorem bd_need_cell (Z : Fx K mg base) {cdv : Value} {A : Around} {outer : List Env} {s : Shared} {H : Hp} {E : XK} (hr : Room 12 (A.deeper (envOfC d_need_cell.qual d_need_cell.scope s.heap.objs.size (He.fAd K ("need_cell", none)) cdv))) :
    SSs (gam w K Λ) (cxOf (L2.CX P w) P w K mg base N_need_cell d_need_cell.qual d_need_cell.scope (He.fAd K ("need_cell", none)) cdv A outer s H E) (fun cls d _ H => E cls d H) d_need_cell.body b_need_cell :=
  (sSs_one (sS_if (sT_not (sT_val (sE_kallI (ok_is_cell Z) takesF hr (by decide) Z.g_is_cell (sA_cons (sE_var 0) (sA_cons (sE_var 1) sA_nil))))) (sSs_one (Z.raise_NoCell takesF)) sSs_nil))
theorem ok_need_cell (Z : Fx K mg base) : Kept P w K mg base (gam w K Λ) 13 (He.fAd K ("need_cell", none)) ["marks", "cell"] 2 m_need_cell := by
  obtain ⟨fd, F⟩ := Z.c.def_ 35 (d := d_need_cell) rfl
  exact Kept.mk' F S_need_cell rfl (fun _ _ _ _ _ _ us hl => match us, hl with | [_, _], _ => rfl) fun cdv A outer s H E hr => bd_need_cell Z hr
/-! need_pair -/
def N_need_pair : List Str := ["pair", "one"]
theorem S_need_pair : FnScope N_need_pair ["pair"] (d_need_pair).scope := ⟨rfl, rfl, rfl, by decide +kernel, rfl, by decide +kernel, by decide +kernel⟩
def b_need_pair : MS := (mSeq (mIfS (mOr (mNot (mTst (mCB (isiB isa) (mCons (mVar 0) (mCons (mC (.ty "tuple")) mNil))))) (mOr (mTst (mOp neT (mCB lenB (mCons (mVar 0) mNil)) (mC (.int 2)))) (mNot (mTst (mCB (anyB true) (mCons (mLc (mIA (mVar 0)) [1] (agN 1) mYes (mCall 1 (iso m_is_number) [] (mCons (mVar 1) mNil))) mNil)))))) (mRaise0 3) mNext) (mSeq (mIfS (mTst (mOp (cmpI fun i j => decide (j ≤ i)) (mOp mulT (mOp ixT (mOp ixT (mVar 0) (mC (.int 0))) (mC (.int 0))) (mOp ixT (mOp ixT (mVar 0) (mC (.int 1))) (mC (.int 1)))) (mOp mulT (mOp ixT (mOp ixT (mVar 0) (mC (.int 1))) (mC (.int 0))) (mOp ixT (mOp ixT (mVar 0) (mC (.int 0))) (mC (.int 1)))))) (mRaise0 3) mNext) (mRet (mVar 0))))
def m_need_pair : MF := mDef 2 b_need_pair
theorem bd_need_pair (Z : Fx K mg base) {cdv : Value} {A : Around} {outer : List Env} {s : Shared} {H : Hp} {E : XK} (hr : Room 2 (A.deeper (envOfC d_need_pair.qual d_need_pair.scope s.heap.objs.size (He.fAd K ("need_pair", none)) cdv))) :
    SSs (gam w K Λ) (cxOf (L2.CX P w) P w K mg base N_need_pair d_need_pair.qual d_need_pair.scope (He.fAd K ("need_pair", none)) cdv A outer s H E) (fun cls d _ H => E cls d H) d_need_pair.body b_need_pair :=
  (sSs_cons (sS_if (sT_w (sW_or (sT_not (sT_val (sE_callB call_isA (ok_isi Z.isaZ) Z.f_isinstance boot_isinstance (sA_cons (sE_var 0) (sA_cons (sE_ty "tuple" Z.f_tuple boot_tuple) sA_nil))))) (sW_or (sT_cmp (op_neA hr.units) ok_ne (sE_callB call_lenA ok_len Z.f_len boot_len (sA_cons (sE_var 0) sA_nil)) sE_int) (sW_or1 (sT_not (sT_val (sE_callB (cr_all rfl) ok_all Z.f_all boot_all (sA_cons (sE_lc (sI_any rfl (sE_var 0)) (S_need_pair).nd (blkOk_by (own := [("one", 1)]) (by rfl)) (fun _ _ _ _ _ => (sG_name 1 (S_need_pair).nd)) (fun _ _ _ _ _ => sTs_nil) (fun _ _ _ _ _ => (sE_kallI (ok_is_number Z) L2.takes0 hr (by decide) Z.g_is_number (sA_cons (sE_var 1) sA_nil)))) sA_nil)))))))) (sSs_one (Z.raise_NoCell takesF)) sSs_nil) (sSs_cons (sS_if (sT_cmp op_ge ok_cmpI (sE_op op_mulA ok_mul (sE_ix (sE_ix (sE_var 0) sE_int rfl) sE_int rfl) (sE_ix (sE_ix (sE_var 0) sE_int rfl) sE_int rfl)) (sE_op op_mulA ok_mul (sE_ix (sE_ix (sE_var 0) sE_int rfl) sE_int rfl) (sE_ix (sE_ix (sE_var 0) sE_int rfl) sE_int rfl))) (sSs_one (Z.raise_NoCell takesF)) sSs_nil) (sSs_one (sS_ret (sE_var 0)))))
theorem ok_need_pair (Z : Fx K mg base) : Kept P w K mg base (gam w K Λ) 3 (He.fAd K ("need_pair", none)) ["pair"] 1 m_need_pair := by
  obtain ⟨fd, F⟩ := Z.c.def_ 37 (d := d_need_pair) rfl
  exact Kept.mk' F S_need_pair rfl (fun _ _ _ _ _ _ us hl => match us, hl with | [_], _ => rfl) fun cdv A outer s H E hr => bd_need_pair Z hr
/-! box -/
def N_box : List Str := ["marks", "bounds", "mark", "rows", "at", "low", "high", "spot"]
theorem S_box : FnScope N_box ["marks", "bounds"] (d_box).scope := ⟨rfl, rfl, rfl, by decide +kernel, rfl, by decide +kernel, by decide +kernel⟩
def b_box : MS := (mSeq (mExpr (mCall 1 (iso m_need_marks) [] (mCons (mVar 0) mNil))) (mSeq (mIfS (mOr (mNot (mTst (mCB (isiB isa) (mCons (mVar 1) (mCons (mC (.ty "dict")) mNil))))) (mOr (mTst (mOp neT (mCB lenB (mCons (mVar 1) mNil)) (mCB lenB (mCons (mVar 0) mNil)))) (mNot (mTst (mCB (anyB true) (mCons (mLc (mIA (mVar 0)) [2] (agN 2) mYes (mOp (dinT false) (mVar 2) (mVar 1))) mNil)))))) (mRaise0 3) mNext) (mSeq (mSet 3 (mLstM mNil)) (mSeq (mFor (mEnum (mCons (mVar 0) mNil)) (agT 2 (agCons (agN 4) (agCons (agN 2) agNil))) (mSeq (mAsg (agT 2 (agCons (agN 5) (agCons (agN 6) agNil))) (mCall 1 (iso m_need_pair) [] (mCons (mOp dgetT (mVar 1) (mVar 2)) mNil))) (mSeq (mExpr (mMet isL appendT (mVar 3) (mCons (mOp addT (mCB tupleB (mCons (mLc (mIR1 (mCons (mCB lenB (mCons (mVar 0) mNil)) mNil)) [7] (agN 7) mYes (mOp subT (mC (.int 0)) (mOp mulT (mOp ixT (mVar 5) (mC (.int 1))) (mCB intX (mCons (mOp eqT (mVar 7) (mVar 4)) mNil))))) mNil)) (mTup (mCons (mOp ixT (mVar 5) (mC (.int 0))) mNil))) mNil))) (mExpr (mMet isL appendT (mVar 3) (mCons (mOp addT (mCB tupleB (mCons (mLc (mIR1 (mCons (mCB lenB (mCons (mVar 0) mNil)) mNil)) [7] (agN 7) mYes (mOp mulT (mOp ixT (mVar 6) (mC (.int 1))) (mCB intX (mCons (mOp eqT (mVar 7) (mVar 4)) mNil)))) mNil)) (mTup (mCons (mOp subT (mC (.int 0)) (mOp ixT (mVar 6) (mC (.int 0)))) mNil))) mNil)))))) (mRet (mCall 2 (iso m_sides_of) [] (mCons (mVar 0) (mCons (mVar 3) mNil))))))))
def m_box : MF := mDef 8 b_box
theorem bd_box (Z : Fx K mg base) {cdv : Value} {A : Around} {outer : List Env} {s : Shared} {H : Hp} {E : XK} (hr : Room 6 (A.deeper (envOfC d_box.qual d_box.scope s.heap.objs.size (He.fAd K ("box", none)) cdv))) :
    SSs (gam w K Λ) (cxOf (L2.CX P w) P w K mg base N_box d_box.qual d_box.scope (He.fAd K ("box", none)) cdv A outer s H E) (fun cls d _ H => E cls d H) d_box.body b_box :=
  (sSs_cons (sS_expr (sE_kallI (ok_need_marks Z) takesF hr (by decide) Z.g_need_marks (sA_cons (sE_var 0) sA_nil))) (sSs_cons (sS_if (sT_w (sW_or (sT_not (sT_val (sE_callB call_isA (ok_isi Z.isaZ) Z.f_isinstance boot_isinstance (sA_cons (sE_var 1) (sA_cons (sE_ty "dict" Z.f_dict boot_dict) sA_nil))))) (sW_or (sT_cmp (op_neA hr.units) ok_ne (sE_callB call_lenA ok_len Z.f_len boot_len (sA_cons (sE_var 1) sA_nil)) (sE_callB call_lenA ok_len Z.f_len boot_len (sA_cons (sE_var 0) sA_nil))) (sW_or1 (sT_not (sT_val (sE_callB (cr_all rfl) ok_all Z.f_all boot_all (sA_cons (sE_lc (sI_any rfl (sE_var 0)) (S_box).nd (blkOk_by (own := [("mark", 2)]) (by rfl)) (fun _ _ _ _ _ => (sG_name 2 (S_box).nd)) (fun _ _ _ _ _ => sTs_nil) (fun _ _ _ _ _ => (sE_din (by have := hr.units; exact ur1 this) (sE_var 2) (sE_var 1)))) sA_nil)))))))) (sSs_one (Z.raise_NoCell takesF)) sSs_nil) (sSs_cons (sS_set 3 (sE_lstM sA_nil) (S_box).nd) (sSs_cons (sS_for (sI_enum rfl Z.f_enumerate (sA_cons (sE_var 0) sA_nil)) (sG_tup rfl (sGs_cons (sG_name 4 (S_box).nd) (sGs_cons (sG_name 2 (S_box).nd) sGs_nil))) (sSs_cons (sS_asg (sE_kallI (ok_need_pair Z) takesF hr (by decide) Z.g_need_pair (sA_cons (sE_dget (by have := hr.units; exact ur1 this) (sE_var 1) (sE_var 2)) sA_nil)) (sG_tup rfl (sGs_cons (sG_name 5 (S_box).nd) (sGs_cons (sG_name 6 (S_box).nd) sGs_nil)))) (sSs_cons (sS_expr (sE_met PySem.F.plainAttrs_list PySem.F.slot_list_append PySem.F.type_list_append mt_append ok_append ty_list (sE_var 3) (sA_cons (sE_op op_addA ok_add (sE_callTy call_tupF ok_tuple Z.f_tuple boot_tuple (sA_cons (sE_lc (sI_rng1 Z.f_range (sA_cons (sE_callB call_lenA ok_len Z.f_len boot_len (sA_cons (sE_var 0) sA_nil)) sA_nil)) (S_box).nd (blkOk_by (own := [("spot", 7)]) (by rfl)) (fun _ _ _ _ _ => (sG_name 7 (S_box).nd)) (fun _ _ _ _ _ => sTs_nil) (fun _ _ _ _ _ => (sE_op op_sub ok_sub sE_int (sE_op op_mulA ok_mul (sE_ix (sE_var 5) sE_int rfl) (sE_callTy call_int1 ok_intX Z.f_int boot_int (sA_cons (sE_cmp (op_eqA hr.units) ok_eq (sE_var 7) (sE_var 4)) sA_nil)))))) sA_nil)) (sE_tup (sA_cons (sE_ix (sE_var 5) sE_int rfl) sA_nil))) sA_nil))) (sSs_one (sS_expr (sE_met PySem.F.plainAttrs_list PySem.F.slot_list_append PySem.F.type_list_append mt_append ok_append ty_list (sE_var 3) (sA_cons (sE_op op_addA ok_add (sE_callTy call_tupF ok_tuple Z.f_tuple boot_tuple (sA_cons (sE_lc (sI_rng1 Z.f_range (sA_cons (sE_callB call_lenA ok_len Z.f_len boot_len (sA_cons (sE_var 0) sA_nil)) sA_nil)) (S_box).nd (blkOk_by (own := [("spot", 7)]) (by rfl)) (fun _ _ _ _ _ => (sG_name 7 (S_box).nd)) (fun _ _ _ _ _ => sTs_nil) (fun _ _ _ _ _ => (sE_op op_mulA ok_mul (sE_ix (sE_var 6) sE_int rfl) (sE_callTy call_int1 ok_intX Z.f_int boot_int (sA_cons (sE_cmp (op_eqA hr.units) ok_eq (sE_var 7) (sE_var 4)) sA_nil))))) sA_nil)) (sE_tup (sA_cons (sE_op op_sub ok_sub sE_int (sE_ix (sE_var 6) sE_int rfl)) sA_nil))) sA_nil)))))) passF) (sSs_one (sS_ret (sE_kallI (ok_sides_of Z) takesF hr (by decide) Z.g_sides_of (sA_cons (sE_var 0) (sA_cons (sE_var 3) sA_nil)))))))))
theorem ok_box (Z : Fx K mg base) : Kept P w K mg base (gam w K Λ) 7 (He.fAd K ("box", none)) ["marks", "bounds"] 2 m_box := by
  obtain ⟨fd, F⟩ := Z.c.def_ 36 (d := d_box) rfl
  exact Kept.mk' F S_box rfl (fun _ _ _ _ _ _ us hl => match us, hl with | [_, _], _ => rfl) fun cdv A outer s H E hr => bd_box Z hr
/-! corners -/
def N_corners : List Str := ["marks", "cell", "corner"]
theorem S_corners : FnScope N_corners ["marks", "cell"] (d_corners).scope := ⟨rfl, rfl, rfl, by decide +kernel, rfl, by decide +kernel, by decide +kernel⟩
def b_corners : MS := (mSeq (mExpr (mCall 1 (iso m_need_marks) [] (mCons (mVar 0) mNil))) (mSeq (mExpr (mCall 2 (iso m_need_cell) [] (mCons (mVar 0) (mCons (mVar 1) mNil)))) mNoS))
def m_corners : MF := mDef 3 b_corners
theorem bd_corners (Z : Fx K mg base) {cdv : Value} {A : Around} {outer : List Env} {s : Shared} {H : Hp} {E : XK} (hr : Room 13 (A.deeper (envOfC d_corners.qual d_corners.scope s.heap.objs.size (He.fAd K ("corners", none)) cdv))) :
    SSs (gam w K Λ) (cxOf (L2.CX P w) P w K mg base N_corners d_corners.qual d_corners.scope (He.fAd K ("corners", none)) cdv A outer s H E) (fun cls d _ H => E cls d H) d_corners.body b_corners :=
  (sSs_cons (sS_expr (sE_kallI (ok_need_marks Z) takesF hr (by decide) Z.g_need_marks (sA_cons (sE_var 0) sA_nil))) (sSs_cons (sS_expr (sE_kallI (ok_need_cell Z) takesF hr (by decide) Z.g_need_cell (sA_cons (sE_var 0) (sA_cons (sE_var 1) sA_nil)))) sSs_no))
theorem ok_corners (Z : Fx K mg base) : Kept P w K mg base (gam w K Λ) 14 (He.fAd K ("corners", none)) ["marks", "cell"] 2 m_corners := by
  obtain ⟨fd, F⟩ := Z.c.def_ 40 (d := d_corners) rfl
  exact Kept.mk' F S_corners rfl (fun _ _ _ _ _ _ us hl => match us, hl with | [_, _], _ => rfl) fun cdv A outer s H E hr => bd_corners Z hr
/-! inner -/
def N_inner : List Str := ["marks", "cell", "some", "found", "at", "mark", "over", "under", "corner"]
theorem S_inner : FnScope N_inner ["marks", "cell"] (d_inner).scope := ⟨rfl, rfl, rfl, by decide +kernel, rfl, by decide +kernel, by decide +kernel⟩
def b_inner : MS := (mSeq (mSet 2 (mCall 2 (iso m_corners) [] (mCons (mVar 0) (mCons (mVar 1) mNil)))) mNoS)
def m_inner : MF := mDef 9 b_inner
theorem bd_inner (Z : Fx K mg base) {cdv : Value} {A : Around} {outer : List Env} {s : Shared} {H : Hp} {E : XK} (hr : Room 14 (A.deeper (envOfC d_inner.qual d_inner.scope s.heap.objs.size (He.fAd K ("inner", none)) cdv))) :
    SSs (gam w K Λ) (cxOf (L2.CX P w) P w K mg base N_inner d_inner.qual d_inner.scope (He.fAd K ("inner", none)) cdv A outer s H E) (fun cls d _ H => E cls d H) d_inner.body b_inner :=
  (sSs_cons (sS_set 2 (sE_kallI (ok_corners Z) takesF hr (by decide) Z.g_corners (sA_cons (sE_var 0) (sA_cons (sE_var 1) sA_nil))) (S_inner).nd) sSs_no)
theorem ok_inner (Z : Fx K mg base) : Kept P w K mg base (gam w K Λ) 15 (He.fAd K ("inner", none)) ["marks", "cell"] 2 m_inner := by
  obtain ⟨fd, F⟩ := Z.c.def_ 41 (d := d_inner) rfl
  exact Kept.mk' F S_inner rfl (fun _ _ _ _ _ _ us hl => match us, hl with | [_, _], _ => rfl) fun cdv A outer s H E hr => bd_inner Z hr
/-! simplices -/
def N_simplices : List Str := ["some", "rows", "wide", "first", "found", "faces", "row", "face", "corner", "lot"]
theorem S_simplices : FnScope N_simplices ["some", "rows", "wide"] (d_simplices).scope := ⟨rfl, rfl, rfl, by decide +kernel, rfl, by decide +kernel, by decide +kernel⟩
def b_simplices : MS := (mSeq (mIfS (mTst (mOp eqT (mVar 2) (mC (.int 1)))) (mRet (mLst (mCons (mCB tupleB (mCons (mVar 0) mNil)) mNil))) mNext) mNoS)
def m_simplices : MF := mDef 10 b_simplices
theorem bd_simplices (Z : Fx K mg base) {cdv : Value} {A : Around} {outer : List Env} {s : Shared} {H : Hp} {E : XK} (hr : Room 0 (A.deeper (envOfC d_simplices.qual d_simplices.scope s.heap.objs.size (He.fAd K ("simplices", none)) cdv))) :
    SSs (gam w K Λ) (cxOf (L2.CX P w) P w K mg base N_simplices d_simplices.qual d_simplices.scope (He.fAd K ("simplices", none)) cdv A outer s H E) (fun cls d _ H => E cls d H) d_simplices.body b_simplices :=
  (sSs_cons (sS_if (sT_cmp (op_eqA hr.units) ok_eq (sE_var 2) sE_int) (sSs_one (sS_ret (sE_lst (sA_cons (sE_callTy call_tupF ok_tuple Z.f_tuple boot_tuple (sA_cons (sE_var 0) sA_nil)) sA_nil)))) sSs_nil) sSs_no)
theorem ok_simplices (Z : Fx K mg base) : Kept P w K mg base (gam w K Λ) 1 (He.fAd K ("simplices", none)) ["some", "rows", "wide"] 3 m_simplices := by
  obtain ⟨fd, F⟩ := Z.c.def_ 42 (d := d_simplices) rfl
  exact Kept.mk' F S_simplices rfl (fun _ _ _ _ _ _ us hl => match us, hl with | [_, _, _], _ => rfl) fun cdv A outer s H E hr => bd_simplices Z hr
/-! volume_by -/
def N_volume_by : List Str := ["rows", "wide", "found", "often", "at", "lot", "under", "corner"]
theorem S_volume_by : FnScope N_volume_by ["rows", "wide"] (d_volume_by).scope := ⟨rfl, rfl, rfl, by decide +kernel, rfl, by decide +kernel, by decide +kernel⟩
def b_volume_by : MS := (mSeq (mAsg (agT 2 (agCons (agN 2) (agCons (agN 3) agNil))) (mTup (mCons (mTup (mCons (mC (.int 0)) (mCons (mC (.int 1)) mNil))) (mCons (mC (.int 1)) mNil)))) (mSeq (mFor (mIR1 (mCons (mVar 1) mNil)) (agN 4) (mSet 3 (mOp mulT (mVar 3) (mOp addT (mVar 4) (mC (.int 1)))))) (mSeq (mFor (mIA (mCall 3 (iso m_simplices) [] (mCons (mCB sortY (mCons (mCall 2 (iso m_corners_by) [] (mCons (mVar 0) (mCons (mVar 1) mNil))) mNil)) (mCons (mVar 0) (mCons (mVar 1) mNil))))) (agN 5) (mSeq (mSet 6 (mVar 3)) (mSeq (mFor (mIA (mVar 5)) (agN 7) (mSet 6 (mOp mulT (mVar 6) (mOp ixT (mVar 7) (mNeg (mC (.int 1))))))) (mSet 2 (mCall 2 (iso m_plus) [] (mCons (mVar 2) (mCons (mCall 2 (iso m_number) [] (mCons (mCB absB (mCons (mCall 1 (iso m_determinant) [] (mCons (mLc (mIA (mVar 5)) [7] (agN 7) mYes (mCB tupleB (mCons (mVar 7) mNil))) mNil)) mNil)) (mCons (mVar 6) mNil))) mNil))))))) (mRet (mVar 2)))))
def m_volume_by : MF := mDef 8 b_volume_by
theorem bd_volume_by (Z : Fx K mg base) {cdv : Value} {A : Around} {outer : List Env} {s : Shared} {H : Hp} {E : XK} (hr : Room 10 (A.deeper (envOfC d_volume_by.qual d_volume_by.scope s.heap.objs.size (He.fAd K ("volume_by", none)) cdv))) :
    SSs (gam w K Λ) (cxOf (L2.CX P w) P w K mg base N_volume_by d_volume_by.qual d_volume_by.scope (He.fAd K ("volume_by", none)) cdv A outer s H E) (fun cls d _ H => E cls d H) d_volume_by.body b_volume_by :=
  (sSs_cons (sS_asg (sE_tup (sA_cons (sE_tup (sA_cons sE_int (sA_cons sE_int sA_nil))) (sA_cons sE_int sA_nil))) (sG_tup rfl (sGs_cons (sG_name 2 (S_volume_by).nd) (sGs_cons (sG_name 3 (S_volume_by).nd) sGs_nil)))) (sSs_cons (sS_for (sI_rng1 Z.f_range (sA_cons (sE_var 1) sA_nil)) (sG_name 4 (S_volume_by).nd) (sSs_one (sS_set 3 (sE_op op_mulA ok_mul (sE_var 3) (sE_op op_addA ok_add (sE_var 4) sE_int)) (S_volume_by).nd)) passF) (sSs_cons (sS_for (sI_any rfl (sE_kallI (ok_simplices Z) takesF hr (by decide) Z.g_simplices (sA_cons (sE_callB (cr_sortX (ur128 hr)) ok_sortY Z.f_sorted boot_sorted (sA_cons (sE_kallI (ok_corners_by Z) takesF hr (by decide) Z.g_corners_by (sA_cons (sE_var 0) (sA_cons (sE_var 1) sA_nil))) sA_nil)) (sA_cons (sE_var 0) (sA_cons (sE_var 1) sA_nil))))) (sG_name 5 (S_volume_by).nd) (sSs_cons (sS_set 6 (sE_var 3) (S_volume_by).nd) (sSs_cons (sS_for (sI_any rfl (sE_var 5)) (sG_name 7 (S_volume_by).nd) (sSs_one (sS_set 6 (sE_op op_mulA ok_mul (sE_var 6) (sE_ix (sE_var 7) (sE_neg sE_int) rfl)) (S_volume_by).nd)) passF) (sSs_one (sS_set 2 (sE_kallI (ok_plus Z) takesF hr (by decide) Z.g_plus (sA_cons (sE_var 2) (sA_cons (sE_kallI (ok_number Z) takesF hr (by decide) Z.g_number (sA_cons (sE_callB call_abs ok_abs Z.f_abs boot_abs (sA_cons (sE_kallI (ok_determinant Z) takesF hr (by decide) Z.g_determinant (sA_cons (sE_lc (sI_any rfl (sE_var 5)) (S_volume_by).nd (blkOk_by (own := [("corner", 7)]) (by rfl)) (fun _ _ _ _ _ => (sG_name 7 (S_volume_by).nd)) (fun _ _ _ _ _ => sTs_nil) (fun _ _ _ _ _ => (sE_callTy call_tupF ok_tuple Z.f_tuple boot_tuple (sA_cons (sE_var 7) sA_nil)))) sA_nil)) sA_nil)) (sA_cons (sE_var 6) sA_nil))) sA_nil))) (S_volume_by).nd)))) passF) (sSs_one (sS_ret (sE_var 2))))))
theorem ok_volume_by (Z : Fx K mg base) : Kept P w K mg base (gam w K Λ) 11 (He.fAd K ("volume_by", none)) ["rows", "wide"] 2 m_volume_by := by
  obtain ⟨fd, F⟩ := Z.c.def_ 43 (d := d_volume_by) rfl
  exact Kept.mk' F S_volume_by rfl (fun _ _ _ _ _ _ us hl => match us, hl with | [_, _], _ => rfl) fun cdv A outer s H E hr => bd_volume_by Z hr
/-! volume -/
def N_volume : List Str := ["marks", "cell"]
theorem S_volume : FnScope N_volume ["marks", "cell"] (d_volume).scope := ⟨rfl, rfl, rfl, by decide +kernel, rfl, by decide +kernel, by decide +kernel⟩
def b_volume : MS := (mSeq (mExpr (mCall 1 (iso m_need_marks) [] (mCons (mVar 0) mNil))) (mSeq (mExpr (mCall 2 (iso m_need_cell) [] (mCons (mVar 0) (mCons (mVar 1) mNil)))) (mRet (mCall 2 (iso m_volume_by) [] (mCons (mCall 2 (iso m_rows_of) [] (mCons (mVar 0) (mCons (mVar 1) mNil))) (mCons (mCB lenB (mCons (mVar 0) mNil)) mNil))))))
def m_volume : MF := mDef 2 b_volume
theorem bd_volume (Z : Fx K mg base) {cdv : Value} {A : Around} {outer : List Env} {s : Shared} {H : Hp} {E : XK} (hr : Room 13 (A.deeper (envOfC d_volume.qual d_volume.scope s.heap.objs.size (He.fAd K ("volume", none)) cdv))) :
    SSs (gam w K Λ) (cxOf (L2.CX P w) P w K mg base N_volume d_volume.qual d_volume.scope (He.fAd K ("volume", none)) cdv A outer s H E) (fun cls d _ H => E cls d H) d_volume.body b_volume :=
  (sSs_cons (sS_expr (sE_kallI (ok_need_marks Z) takesF hr (by decide) Z.g_need_marks (sA_cons (sE_var 0) sA_nil))) (sSs_cons (sS_expr (sE_kallI (ok_need_cell Z) takesF hr (by decide) Z.g_need_cell (sA_cons (sE_var 0) (sA_cons (sE_var 1) sA_nil)))) (sSs_one (sS_ret (sE_kallI (ok_volume_by Z) takesF hr (by decide) Z.g_volume_by (sA_cons (sE_kallI (ok_rows_of Z) takesF hr (by decide) Z.g_rows_of (sA_cons (sE_var 0) (sA_cons (sE_var 1) sA_nil))) (sA_cons (sE_callB call_lenA ok_len Z.f_len boot_len (sA_cons (sE_var 0) sA_nil)) sA_nil)))))))
theorem ok_volume (Z : Fx K mg base) : Kept P w K mg base (gam w K Λ) 14 (He.fAd K ("volume", none)) ["marks", "cell"] 2 m_volume := by
  obtain ⟨fd, F⟩ := Z.c.def_ 44 (d := d_volume) rfl
  exact Kept.mk' F S_volume rfl (fun _ _ _ _ _ _ us hl => match us, hl with | [_, _], _ => rfl) fun cdv A outer s H E hr => bd_volume Z hr
/-! cut -/
def N_cut : List Str := ["marks", "cell", "line", "name", "some", "rows", "row"]
theorem S_cut : FnScope N_cut ["marks", "cell", "line"] (d_cut).scope := ⟨rfl, rfl, rfl, by decide +kernel, rfl, by decide +kernel, by decide +kernel⟩
def b_cut : MS := (mSeq (mExpr (mCall 1 (iso m_need_marks) [] (mCons (mVar 0) mNil))) (mSeq (mExpr (mCall 2 (iso m_need_cell) [] (mCons (mVar 0) (mCons (mVar 1) mNil)))) (mSeq (mIfS (mOr (mNot (mTst (mCall 1 (iso m_is_line) [] (mCons (mVar 2) mNil)))) (mNot (mTst (mCB (anyB true) (mCons (mLc (mIA (mOp ixT (mOp ixT (mVar 2) (mC (.int 0))) (mC (.int 0)))) [3, 4] (agT 2 (agCons (agN 3) (agCons (agN 4) agNil))) mYes (mOp (inT false) (mVar 3) (mVar 0))) mNil))))) (mRaise0 3) mNext) mNoS)))
def m_cut : MF := mDef 7 b_cut
theorem bd_cut (Z : Fx K mg base) {cdv : Value} {A : Around} {outer : List Env} {s : Shared} {H : Hp} {E : XK} (hr : Room 13 (A.deeper (envOfC d_cut.qual d_cut.scope s.heap.objs.size (He.fAd K ("cut", none)) cdv))) :
    SSs (gam w K Λ) (cxOf (L2.CX P w) P w K mg base N_cut d_cut.qual d_cut.scope (He.fAd K ("cut", none)) cdv A outer s H E) (fun cls d _ H => E cls d H) d_cut.body b_cut :=
  (sSs_cons (sS_expr (sE_kallI (ok_need_marks Z) takesF hr (by decide) Z.g_need_marks (sA_cons (sE_var 0) sA_nil))) (sSs_cons (sS_expr (sE_kallI (ok_need_cell Z) takesF hr (by decide) Z.g_need_cell (sA_cons (sE_var 0) (sA_cons (sE_var 1) sA_nil)))) (sSs_cons (sS_if (sT_w (sW_or (sT_not (sT_val (sE_kallI (ok_is_line Z) takesF hr (by decide) Z.g_is_line (sA_cons (sE_var 2) sA_nil)))) (sW_or1 (sT_not (sT_val (sE_callB (cr_all rfl) ok_all Z.f_all boot_all (sA_cons (sE_lc (sI_any rfl (sE_ix (sE_ix (sE_var 2) sE_int rfl) sE_int rfl)) (S_cut).nd (blkOk_by (own := [("name", 3), ("some", 4)]) (by rfl)) (fun _ _ _ _ _ => (sG_tup rfl (sGs_cons (sG_name 3 (S_cut).nd) (sGs_cons (sG_name 4 (S_cut).nd) sGs_nil)))) (fun _ _ _ _ _ => sTs_nil) (fun _ _ _ _ _ => (sE_cmp op_inA (ok_in false) (sE_var 3) (sE_var 0)))) sA_nil))))))) (sSs_one (Z.raise_NoCell takesF)) sSs_nil) sSs_no)))
theorem ok_cut (Z : Fx K mg base) : Kept P w K mg base (gam w K Λ) 14 (He.fAd K ("cut", none)) ["marks", "cell", "line"] 3 m_cut := by
  obtain ⟨fd, F⟩ := Z.c.def_ 47 (d := d_cut) rfl
  exact Kept.mk' F S_cut rfl (fun _ _ _ _ _ _ us hl => match us, hl with | [_, _, _], _ => rfl) fun cdv A outer s H E hr => bd_cut Z hr
/-! meet -/
def N_meet : List Str := ["marks", "one", "other"]
theorem S_meet : FnScope N_meet ["marks", "one", "other"] (d_meet).scope := ⟨rfl, rfl, rfl, by decide +kernel, rfl, by decide +kernel, by decide +kernel⟩
def b_meet : MS := (mSeq (mExpr (mCall 1 (iso m_need_marks) [] (mCons (mVar 0) mNil))) (mSeq (mExpr (mCall 2 (iso m_need_cell) [] (mCons (mVar 0) (mCons (mVar 1) mNil)))) (mSeq (mExpr (mCall 2 (iso m_need_cell) [] (mCons (mVar 0) (mCons (mVar 2) mNil)))) mNoS)))
def m_meet : MF := mDef 3 b_meet
theorem bd_meet (Z : Fx K mg base) {cdv : Value} {A : Around} {outer : List Env} {s : Shared} {H : Hp} {E : XK} (hr : Room 13 (A.deeper (envOfC d_meet.qual d_meet.scope s.heap.objs.size (He.fAd K ("meet", none)) cdv))) :
    SSs (gam w K Λ) (cxOf (L2.CX P w) P w K mg base N_meet d_meet.qual d_meet.scope (He.fAd K ("meet", none)) cdv A outer s H E) (fun cls d _ H => E cls d H) d_meet.body b_meet :=
  (sSs_cons (sS_expr (sE_kallI (ok_need_marks Z) takesF hr (by decide) Z.g_need_marks (sA_cons (sE_var 0) sA_nil))) (sSs_cons (sS_expr (sE_kallI (ok_need_cell Z) takesF hr (by decide) Z.g_need_cell (sA_cons (sE_var 0) (sA_cons (sE_var 1) sA_nil)))) (sSs_cons (sS_expr (sE_kallI (ok_need_cell Z) takesF hr (by decide) Z.g_need_cell (sA_cons (sE_var 0) (sA_cons (sE_var 2) sA_nil)))) sSs_no)))
theorem ok_meet (Z : Fx K mg base) : Kept P w K mg base (gam w K Λ) 14 (He.fAd K ("meet", none)) ["marks", "one", "other"] 3 m_meet := by
  obtain ⟨fd, F⟩ := Z.c.def_ 48 (d := d_meet) rfl
  exact Kept.mk' F S_meet rfl (fun _ _ _ _ _ _ us hl => match us, hl with | [_, _, _], _ => rfl) fun cdv A outer s H E hr => bd_meet Z hr
/-! without -/
def N_without : List Str := ["marks", "one", "other", "pieces", "rest", "piece"]
theorem S_without : FnScope N_without ["marks", "one", "other"] (d_without).scope := ⟨rfl, rfl, rfl, by decide +kernel, rfl, by decide +kernel, by decide +kernel⟩
def b_without : MS := (mSeq (mExpr (mCall 1 (iso m_need_marks) [] (mCons (mVar 0) mNil))) (mSeq (mExpr (mCall 2 (iso m_need_cell) [] (mCons (mVar 0) (mCons (mVar 1) mNil)))) (mSeq (mExpr (mCall 2 (iso m_need_cell) [] (mCons (mVar 0) (mCons (mVar 2) mNil)))) mNoS)))
def m_without : MF := mDef 6 b_without
theorem bd_without (Z : Fx K mg base) {cdv : Value} {A : Around} {outer : List Env} {s : Shared} {H : Hp} {E : XK} (hr : Room 13 (A.deeper (envOfC d_without.qual d_without.scope s.heap.objs.size (He.fAd K ("without", none)) cdv))) :
    SSs (gam w K Λ) (cxOf (L2.CX P w) P w K mg base N_without d_without.qual d_without.scope (He.fAd K ("without", none)) cdv A outer s H E) (fun cls d _ H => E cls d H) d_without.body b_without :=
  (sSs_cons (sS_expr (sE_kallI (ok_need_marks Z) takesF hr (by decide) Z.g_need_marks (sA_cons (sE_var 0) sA_nil))) (sSs_cons (sS_expr (sE_kallI (ok_need_cell Z) takesF hr (by decide) Z.g_need_cell (sA_cons (sE_var 0) (sA_cons (sE_var 1) sA_nil)))) (sSs_cons (sS_expr (sE_kallI (ok_need_cell Z) takesF hr (by decide) Z.g_need_cell (sA_cons (sE_var 0) (sA_cons (sE_var 2) sA_nil)))) sSs_no)))
theorem ok_without (Z : Fx K mg base) : Kept P w K mg base (gam w K Λ) 14 (He.fAd K ("without", none)) ["marks", "one", "other"] 3 m_without := by
  obtain ⟨fd, F⟩ := Z.c.def_ 50 (d := d_without) rfl
  exact Kept.mk' F S_without rfl (fun _ _ _ _ _ _ us hl => match us, hl with | [_, _, _], _ => rfl) fun cdv A outer s H E hr => bd_without Z hr
/-! need_cells -/
def N_need_cells : List Str := ["marks", "cells", "cell"]
theorem S_need_cells : FnScope N_need_cells ["marks", "cells"] (d_need_cells).scope := ⟨rfl, rfl, rfl, by decide +kernel, rfl, by decide +kernel, by decide +kernel⟩
def b_need_cells : MS := (mSeq (mIfS (mNot (mTst (mCB (isiB isa) (mCons (mVar 1) (mCons (mTup (mCons (mC (.ty "tuple")) (mCons (mC (.ty "list")) mNil))) mNil))))) (mRaise0 3) mNext) (mFor (mIA (mVar 1)) (agN 2) (mExpr (mCall 2 (iso m_need_cell) [] (mCons (mVar 0) (mCons (mVar 2) mNil))))))
def m_need_cells : MF := mDef 3 b_need_cells
theorem bd_need_cells (Z : Fx K mg base) {cdv : Value} {A : Around} {outer : List Env} {s : Shared} {H : Hp} {E : XK} (hr : Room 13 (A.deeper (envOfC d_need_cells.qual d_need_cells.scope s.heap.objs.size (He.fAd K ("need_cells", none)) cdv))) :
    SSs (gam w K Λ) (cxOf (L2.CX P w) P w K mg base N_need_cells d_need_cells.qual d_need_cells.scope (He.fAd K ("need_cells", none)) cdv A outer s H E) (fun cls d _ H => E cls d H) d_need_cells.body b_need_cells :=
  (sSs_cons (sS_if (sT_not (sT_val (sE_callB call_isA (ok_isi Z.isaZ) Z.f_isinstance boot_isinstance (sA_cons (sE_var 1) (sA_cons (sE_tup (sA_cons (sE_ty "tuple" Z.f_tuple boot_tuple) (sA_cons (sE_ty "list" Z.f_list boot_list) sA_nil))) sA_nil))))) (sSs_one (Z.raise_NoCell takesF)) sSs_nil) (sSs_one (sS_for (sI_any rfl (sE_var 1)) (sG_name 2 (S_need_cells).nd) (sSs_one (sS_expr (sE_kallI (ok_need_cell Z) takesF hr (by decide) Z.g_need_cell (sA_cons (sE_var 0) (sA_cons (sE_var 2) sA_nil))))) passF)))
theorem ok_need_cells (Z : Fx K mg base) : Kept P w K mg base (gam w K Λ) 14 (He.fAd K ("need_cells", none)) ["marks", "cells"] 2 m_need_cells := by
  obtain ⟨fd, F⟩ := Z.c.def_ 51 (d := d_need_cells) rfl
  exact Kept.mk' F S_need_cells rfl (fun _ _ _ _ _ _ us hl => match us, hl with | [_, _], _ => rfl) fun cdv A outer s H E hr => bd_need_cells Z hr
/-! are_apart -/
def N_are_apart : List Str := ["marks", "cells", "rows", "cell", "at", "one", "other"]
theorem S_are_apart : FnScope N_are_apart ["marks", "cells"] (d_are_apart).scope := ⟨rfl, rfl, rfl, by decide +kernel, rfl, by decide +kernel, by decide +kernel⟩
def b_are_apart : MS := (mSeq (mExpr (mCall 1 (iso m_need_marks) [] (mCons (mVar 0) mNil))) (mSeq (mExpr (mCall 2 (iso m_need_cells) [] (mCons (mVar 0) (mCons (mVar 1) mNil)))) (mSeq (mSet 2 (mLc (mIA (mVar 1)) [3] (agN 3) mYes (mCall 2 (iso m_rows_of) [] (mCons (mVar 0) (mCons (mVar 3) mNil))))) (mSeq (mFor (mEnum (mCons (mVar 2) mNil)) (agT 2 (agCons (agN 4) (agCons (agN 5) agNil))) (mIfS (mTst (mCB (anyB false) (mCons (mLc (mIA (mSl (mVar 2) none (some (mVar 4)))) [6] (agN 6) mYes (mOp (isN false) (mCall 2 (iso m_bounded_rows) [] (mCons (mOp addT (mVar 5) (mVar 6)) (mCons (mCB lenB (mCons (mVar 0) mNil)) mNil))) (mC .non))) mNil))) (mRet (mC (.bl false))) mNext)) (mRet (mC (.bl true)))))))
def m_are_apart : MF := mDef 7 b_are_apart
theorem bd_are_apart (Z : Fx K mg base) {cdv : Value} {A : Around} {outer : List Env} {s : Shared} {H : Hp} {E : XK} (hr : Room 14 (A.deeper (envOfC d_are_apart.qual d_are_apart.scope s.heap.objs.size (He.fAd K ("are_apart", none)) cdv))) :
    SSs (gam w K Λ) (cxOf (L2.CX P w) P w K mg base N_are_apart d_are_apart.qual d_are_apart.scope (He.fAd K ("are_apart", none)) cdv A outer s H E) (fun cls d _ H => E cls d H) d_are_apart.body b_are_apart :=
  (sSs_cons (sS_expr (sE_kallI (ok_need_marks Z) takesF hr (by decide) Z.g_need_marks (sA_cons (sE_var 0) sA_nil))) (sSs_cons (sS_expr (sE_kallI (ok_need_cells Z) takesF hr (by decide) Z.g_need_cells (sA_cons (sE_var 0) (sA_cons (sE_var 1) sA_nil)))) (sSs_cons (sS_setLc 2 (sI_any rfl (sE_var 1)) (S_are_apart).nd (blkOk_by (own := [("cell", 3)]) (by rfl)) (fun _ _ _ _ _ => (sG_name 3 (S_are_apart).nd)) (fun _ _ _ _ _ => sTs_nil) (fun _ _ _ _ _ => (sE_kallI (ok_rows_of Z) L2.takes0 hr (by decide) Z.g_rows_of (sA_cons (sE_var 0) (sA_cons (sE_var 3) sA_nil))))) (sSs_cons (sS_for (sI_enum rfl Z.f_enumerate (sA_cons (sE_var 2) sA_nil)) (sG_tup rfl (sGs_cons (sG_name 4 (S_are_apart).nd) (sGs_cons (sG_name 5 (S_are_apart).nd) sGs_nil))) (sSs_one (sS_if (sT_val (sE_callB (cr_any rfl) ok_any Z.f_any boot_any (sA_cons (sE_lc (sI_any rfl (sE_sl rfl (sE_var 2) sP_none (sP_some (sE_var 4)))) (S_are_apart).nd (blkOk_by (own := [("other", 6)]) (by rfl)) (fun _ _ _ _ _ => (sG_name 6 (S_are_apart).nd)) (fun _ _ _ _ _ => sTs_nil) (fun _ _ _ _ _ => (sE_cmp op_notN ok_notN (sE_kallI (ok_bounded_rows Z) L2.takes0 hr (by decide) Z.g_bounded_rows (sA_cons (sE_op op_addA ok_add (sE_var 5) (sE_var 6)) (sA_cons (sE_callB call_lenA ok_len Z.f_len boot_len (sA_cons (sE_var 0) sA_nil)) sA_nil))) sE_non))) sA_nil))) (sSs_one (sS_ret sE_bl)) sSs_nil)) passF) (sSs_one (sS_ret sE_bl))))))
theorem ok_are_apart (Z : Fx K mg base) : Kept P w K mg base (gam w K Λ) 15 (He.fAd K ("are_apart", none)) ["marks", "cells"] 2 m_are_apart := by
  obtain ⟨fd, F⟩ := Z.c.def_ 52 (d := d_are_apart) rfl
  exact Kept.mk' F S_are_apart rfl (fun _ _ _ _ _ _ us hl => match us, hl with | [_, _], _ => rfl) fun cdv A outer s H E hr => bd_are_apart Z hr
/-! lies_in -/
def N_lies_in : List Str := ["marks", "cell", "other", "rows", "row", "corner"]
theorem S_lies_in : FnScope N_lies_in ["marks", "cell", "other"] (d_lies_in).scope := ⟨rfl, rfl, rfl, by decide +kernel, rfl, by decide +kernel, by decide +kernel⟩
def b_lies_in : MS := (mSeq (mSet 3 (mCall 2 (iso m_rows_of) [] (mCons (mVar 0) (mCons (mVar 2) mNil)))) (mRet (mCB (anyB true) (mCons (mLc2 (mIA (mVar 3)) [4, 5] (agN 4) mYes (mIA (mCall 2 (iso m_corners_by) [] (mCons (mCall 2 (iso m_rows_of) [] (mCons (mVar 0) (mCons (mVar 1) mNil))) (mCons (mCB lenB (mCons (mVar 0) mNil)) mNil)))) [5] (agN 5) mYes (mOp (cmpI fun i j => decide (i ≤ j)) (mCall 2 (iso m_value_at) [] (mCons (mVar 4) (mCons (mVar 5) mNil))) (mC (.int 0)))) mNil))))
def m_lies_in : MF := mDef 6 b_lies_in
theorem bd_lies_in (Z : Fx K mg base) {cdv : Value} {A : Around} {outer : List Env} {s : Shared} {H : Hp} {E : XK} (hr : Room 10 (A.deeper (envOfC d_lies_in.qual d_lies_in.scope s.heap.objs.size (He.fAd K ("lies_in", none)) cdv))) :
    SSs (gam w K Λ) (cxOf (L2.CX P w) P w K mg base N_lies_in d_lies_in.qual d_lies_in.scope (He.fAd K ("lies_in", none)) cdv A outer s H E) (fun cls d _ H => E cls d H) d_lies_in.body b_lies_in :=
  (sSs_cons (sS_set 3 (sE_kallI (ok_rows_of Z) takesF hr (by decide) Z.g_rows_of (sA_cons (sE_var 0) (sA_cons (sE_var 2) sA_nil))) (S_lies_in).nd) (sSs_one (sS_ret (sE_callB (cr_all rfl) ok_all Z.f_all boot_all (sA_cons (sE_lc2 (sI_any rfl (sE_var 3)) (S_lies_in).nd (blkOk_by (own := [("row", 4), ("corner", 5)]) (by rfl)) (fun _ _ _ _ _ => (sG_more (sG_name 4 (S_lies_in).nd) (by decide))) (fun _ _ _ _ _ => sTs_nil) (fun _ _ _ _ _ => (sI_any rfl (sE_kallI (ok_corners_by Z) L2.takes0 hr (by decide) Z.g_corners_by (sA_cons (sE_kallI (ok_rows_of Z) L2.takes0 hr (by decide) Z.g_rows_of (sA_cons (sE_var 0) (sA_cons (sE_var 1) sA_nil))) (sA_cons (sE_callB call_lenA ok_len Z.f_len boot_len (sA_cons (sE_var 0) sA_nil)) sA_nil))))) (fun _ _ _ _ _ => (sG_name 5 (S_lies_in).nd)) (fun _ _ _ _ _ => sTs_nil) (fun _ _ _ _ _ => (sE_cmp op_le ok_cmpI (sE_kallI (ok_value_at Z) L2.takes0 hr (by decide) Z.g_value_at (sA_cons (sE_var 4) (sA_cons (sE_var 5) sA_nil))) sE_int))) sA_nil)))))
theorem ok_lies_in (Z : Fx K mg base) : Kept P w K mg base (gam w K Λ) 11 (He.fAd K ("lies_in", none)) ["marks", "cell", "other"] 3 m_lies_in := by
  obtain ⟨fd, F⟩ := Z.c.def_ 53 (d := d_lies_in) rfl
  exact Kept.mk' F S_lies_in rfl (fun _ _ _ _ _ _ us hl => match us, hl with | [_, _, _], _ => rfl) fun cdv A outer s H E hr => bd_lies_in Z hr
/-! fills -/
def N_fills : List Str := ["marks", "cell", "cells", "one", "found"]
theorem S_fills : FnScope N_fills ["marks", "cell", "cells"] (d_fills).scope := ⟨rfl, rfl, rfl, by decide +kernel, rfl, by decide +kernel, by decide +kernel⟩
def b_fills : MS := (mSeq (mExpr (mCall 1 (iso m_need_marks) [] (mCons (mVar 0) mNil))) (mSeq (mExpr (mCall 2 (iso m_need_cell) [] (mCons (mVar 0) (mCons (mVar 1) mNil)))) (mSeq (mExpr (mCall 2 (iso m_need_cells) [] (mCons (mVar 0) (mCons (mVar 2) mNil)))) (mSeq (mIfS (mOr (mNot (mTst (mCB (anyB true) (mCons (mLc (mIA (mVar 2)) [3] (agN 3) mYes (mCall 3 (iso m_lies_in) [] (mCons (mVar 0) (mCons (mVar 3) (mCons (mVar 1) mNil))))) mNil)))) (mNot (mTst (mCall 2 (iso m_are_apart) [] (mCons (mVar 0) (mCons (mVar 2) mNil)))))) (mRet (mC (.bl false))) mNext) (mSeq (mSet 4 (mTup (mCons (mC (.int 0)) (mCons (mC (.int 1)) mNil)))) (mSeq (mFor (mIA (mVar 2)) (agN 3) (mSet 4 (mCall 2 (iso m_plus) [] (mCons (mVar 4) (mCons (mCall 2 (iso m_volume) [] (mCons (mVar 0) (mCons (mVar 3) mNil))) mNil))))) (mRet (mOp eqT (mVar 4) (mCall 2 (iso m_volume) [] (mCons (mVar 0) (mCons (mVar 1) mNil)))))))))))
def m_fills : MF := mDef 5 b_fills
theorem bd_fills (Z : Fx K mg base) {cdv : Value} {A : Around} {outer : List Env} {s : Shared} {H : Hp} {E : XK} (hr : Room 15 (A.deeper (envOfC d_fills.qual d_fills.scope s.heap.objs.size (He.fAd K ("fills", none)) cdv))) :
    SSs (gam w K Λ) (cxOf (L2.CX P w) P w K mg base N_fills d_fills.qual d_fills.scope (He.fAd K ("fills", none)) cdv A outer s H E) (fun cls d _ H => E cls d H) d_fills.body b_fills :=
  (sSs_cons (sS_expr (sE_kallI (ok_need_marks Z) takesF hr (by decide) Z.g_need_marks (sA_cons (sE_var 0) sA_nil))) (sSs_cons (sS_expr (sE_kallI (ok_need_cell Z) takesF hr (by decide) Z.g_need_cell (sA_cons (sE_var 0) (sA_cons (sE_var 1) sA_nil)))) (sSs_cons (sS_expr (sE_kallI (ok_need_cells Z) takesF hr (by decide) Z.g_need_cells (sA_cons (sE_var 0) (sA_cons (sE_var 2) sA_nil)))) (sSs_cons (sS_if (sT_w (sW_or (sT_not (sT_val (sE_callB (cr_all rfl) ok_all Z.f_all boot_all (sA_cons (sE_lc (sI_any rfl (sE_var 2)) (S_fills).nd (blkOk_by (own := [("one", 3)]) (by rfl)) (fun _ _ _ _ _ => (sG_name 3 (S_fills).nd)) (fun _ _ _ _ _ => sTs_nil) (fun _ _ _ _ _ => (sE_kallI (ok_lies_in Z) L2.takes0 hr (by decide) Z.g_lies_in (sA_cons (sE_var 0) (sA_cons (sE_var 3) (sA_cons (sE_var 1) sA_nil)))))) sA_nil)))) (sW_or1 (sT_not (sT_val (sE_kallI (ok_are_apart Z) takesF hr (by decide) Z.g_are_apart (sA_cons (sE_var 0) (sA_cons (sE_var 2) sA_nil)))))))) (sSs_one (sS_ret sE_bl)) sSs_nil) (sSs_cons (sS_set 4 (sE_tup (sA_cons sE_int (sA_cons sE_int sA_nil))) (S_fills).nd) (sSs_cons (sS_for (sI_any rfl (sE_var 2)) (sG_name 3 (S_fills).nd) (sSs_one (sS_set 4 (sE_kallI (ok_plus Z) takesF hr (by decide) Z.g_plus (sA_cons (sE_var 4) (sA_cons (sE_kallI (ok_volume Z) takesF hr (by decide) Z.g_volume (sA_cons (sE_var 0) (sA_cons (sE_var 3) sA_nil))) sA_nil))) (S_fills).nd)) passF) (sSs_one (sS_ret (sE_cmp (op_eqA hr.units) ok_eq (sE_var 4) (sE_kallI (ok_volume Z) takesF hr (by decide) Z.g_volume (sA_cons (sE_var 0) (sA_cons (sE_var 1) sA_nil))))))))))))
theorem ok_fills (Z : Fx K mg base) : Kept P w K mg base (gam w K Λ) 16 (He.fAd K ("fills", none)) ["marks", "cell", "cells"] 3 m_fills := by
  obtain ⟨fd, F⟩ := Z.c.def_ 54 (d := d_fills) rfl
  exact Kept.mk' F S_fills rfl (fun _ _ _ _ _ _ us hl => match us, hl with | [_, _, _], _ => rfl) fun cdv A outer s H E hr => bd_fills Z hr
/-! _law_begun -/
def N_l_begun : List Str := ["script", "great", "cell"]
theorem S_l_begun : FnScope N_l_begun ["script"] (d_l_begun).scope := ⟨rfl, rfl, rfl, by decide +kernel, rfl, by decide +kernel, by decide +kernel⟩
def b_l_begun : MS := (mSeq (mSet 1 (mLcM (mIA (mVar 0)) [2] (agN 2) (mTst (mOp (cmpI fun i j => decide (j ≤ i)) (mCB absB (mCons (mVar 2) mNil)) (mOp powT (mC (.int 10)) (mC (.int 18))))) (mOp subT (mCB absB (mCons (mVar 2) mNil)) (mOp powT (mC (.int 10)) (mC (.int 18)))))) (mRet (mDisp true (mPc (mC (.str "great")) (mVar 1) (mPc (mC (.str "cells")) (mLc (mIA (mVar 0)) [2] (agN 2) mYes (mCB absB (mCons (mVar 2) mNil))) (mPc (mC (.str "rest")) (mC (.int 0)) (mPc (mC (.str "turn")) (mC (.int 0)) mP0)))))))
def m_l_begun : MF := mDef 3 b_l_begun
theorem bd_l_begun (Z : Fx K mg base) {cdv : Value} {A : Around} {outer : List Env} {s : Shared} {H : Hp} {E : XK} (hr : Room 0 (A.deeper (envOfC d_l_begun.qual d_l_begun.scope s.heap.objs.size (He.fAd K ("_law_begun", none)) cdv))) :
    SSs (gam w K Λ) (cxOf (L2.CX P w) P w K mg base N_l_begun d_l_begun.qual d_l_begun.scope (He.fAd K ("_law_begun", none)) cdv A outer s H E) (fun cls d _ H => E cls d H) d_l_begun.body b_l_begun :=
  (sSs_cons (sS_setLcM 1 (sI_any rfl (sE_var 0)) (S_l_begun).nd (blkOk_by (own := [("cell", 2)]) (by rfl)) (fun _ _ _ _ _ => (sG_name 2 (S_l_begun).nd)) (fun _ _ _ _ _ => (sTs_one (sT_cmp op_ge ok_cmpI (sE_callB call_abs ok_abs Z.f_abs boot_abs (sA_cons (sE_var 2) sA_nil)) (sE_op op_pow ok_pow sE_int sE_int)))) (fun _ _ _ _ _ => (sE_op op_sub ok_sub (sE_callB call_abs ok_abs Z.f_abs boot_abs (sA_cons (sE_var 2) sA_nil)) (sE_op op_pow ok_pow sE_int sE_int)))) (sSs_one (sS_ret (sE_disp true (sPc sE_str (sE_var 1) (sPc sE_str (sE_lc (sI_any rfl (sE_var 0)) (S_l_begun).nd (blkOk_by (own := [("cell", 2)]) (by rfl)) (fun _ _ _ _ _ => (sG_name 2 (S_l_begun).nd)) (fun _ _ _ _ _ => sTs_nil) (fun _ _ _ _ _ => (sE_callB call_abs ok_abs Z.f_abs boot_abs (sA_cons (sE_var 2) sA_nil)))) (sPc sE_str sE_int (sPc sE_str sE_int sP0))))))))
theorem ok_l_begun (Z : Fx K mg base) : Kept P w K mg base (gam w K Λ) 1 (He.fAd K ("_law_begun", none)) ["script"] 1 m_l_begun := by
  obtain ⟨fd, F⟩ := Z.c.def_ 55 (d := d_l_begun) rfl
  exact Kept.mk' F S_l_begun rfl (fun _ _ _ _ _ _ us hl => match us, hl with | [_], _ => rfl) fun cdv A outer s H E hr => bd_l_begun Z hr
/-! _law_mixed -/
def N_l_mixed : List Str := ["state", "turn", "found", "prime", "blend", "cell"]
theorem S_l_mixed : FnScope N_l_mixed ["state"] (d_l_mixed).scope := ⟨rfl, rfl, rfl, by decide +kernel, rfl, by decide +kernel, by decide +kernel⟩
def b_l_mixed : MS := (mSeq (mPar 1 2 (mCons (mOp addT (mOp dgetT (mVar 0) (mC (.str "turn"))) (mC (.int 1))) (mCons (mC (.int 0)) mNil))) (mSeq (mDput (mVar 0) (mC (.str "turn")) (mVar 1)) (mSeq (mFor (mIA (mLst (mCons (mC (.int 2147483629)) (mCons (mC (.int 2147483587)) (mCons (mC (.int 2147483579)) (mCons (mC (.int 2147483563)) mNil)))))) (agN 3) (mSeq (mSet 4 (mOp addT (mOp mulT (mC (.int 69621)) (mVar 1)) (mOp fdivT (mVar 3) (mC (.int 41))))) (mSeq (mFor (mIA (mOp dgetT (mVar 0) (mC (.str "cells")))) (agN 5) (mSet 4 (mOp modT (mCB intX (mCons (mOp addT (mOp addT (mOp mulT (mVar 4) (mC (.int 48271))) (mVar 5)) (mVar 1)) mNil)) (mVar 3)))) (mSet 2 (mOp addT (mOp mulT (mVar 2) (mC (.int 2147483659))) (mOp modT (mCB intX (mCons (mOp powT (mVar 4) (mC (.int 5))) mNil)) (mVar 3))))))) (mRet (mVar 2)))))
def m_l_mixed : MF := mDef 6 b_l_mixed
theorem bd_l_mixed (Z : Fx K mg base) {cdv : Value} {A : Around} {outer : List Env} {s : Shared} {H : Hp} {E : XK} (hr : Room 0 (A.deeper (envOfC d_l_mixed.qual d_l_mixed.scope s.heap.objs.size (He.fAd K ("_law_mixed", none)) cdv))) :
    SSs (gam w K Λ) (cxOf (L2.CX P w) P w K mg base N_l_mixed d_l_mixed.qual d_l_mixed.scope (He.fAd K ("_law_mixed", none)) cdv A outer s H E) (fun cls d _ H => E cls d H) d_l_mixed.body b_l_mixed :=
  (sSs_cons (sS_par 1 2 (sA_cons (sE_op op_addA ok_add (sE_dget (by have := hr.units; exact ur1 this) (sE_var 0) sE_str) sE_int) (sA_cons sE_int sA_nil)) (S_l_mixed).nd) (sSs_cons (sS_dput (by have := hr.units; exact ur1 this) (sE_var 0) sE_str (sE_var 1)) (sSs_cons (sS_for (sI_any rfl (sE_lst (sA_cons sE_int (sA_cons sE_int (sA_cons sE_int (sA_cons sE_int sA_nil)))))) (sG_name 3 (S_l_mixed).nd) (sSs_cons (sS_set 4 (sE_op op_addA ok_add (sE_op op_mulA ok_mul sE_int (sE_var 1)) (sE_op op_fdivW ok_fdiv (sE_var 3) sE_int)) (S_l_mixed).nd) (sSs_cons (sS_for (sI_any rfl (sE_dget (by have := hr.units; exact ur1 this) (sE_var 0) sE_str)) (sG_name 5 (S_l_mixed).nd) (sSs_one (sS_set 4 (sE_op op_mod ok_mod (sE_callTy call_int1 ok_intX Z.f_int boot_int (sA_cons (sE_op op_addA ok_add (sE_op op_addA ok_add (sE_op op_mulA ok_mul (sE_var 4) sE_int) (sE_var 5)) (sE_var 1)) sA_nil)) (sE_var 3)) (S_l_mixed).nd)) passF) (sSs_one (sS_set 2 (sE_op op_addA ok_add (sE_op op_mulA ok_mul (sE_var 2) sE_int) (sE_op op_mod ok_mod (sE_callTy call_int1 ok_intX Z.f_int boot_int (sA_cons (sE_op op_pow ok_pow (sE_var 4) sE_int) sA_nil)) (sE_var 3))) (S_l_mixed).nd)))) passF) (sSs_one (sS_ret (sE_var 2))))))
theorem ok_l_mixed (Z : Fx K mg base) : Kept P w K mg base (gam w K Λ) 1 (He.fAd K ("_law_mixed", none)) ["state"] 1 m_l_mixed := by
  obtain ⟨fd, F⟩ := Z.c.def_ 56 (d := d_l_mixed) rfl
  exact Kept.mk' F S_l_mixed rfl (fun _ _ _ _ _ _ us hl => match us, hl with | [_], _ => rfl) fun cdv A outer s H E hr => bd_l_mixed Z hr
/-! _law_draw -/
def N_l_draw : List Str := ["state", "room", "found"]
theorem S_l_draw : FnScope N_l_draw ["state", "room"] (d_l_draw).scope := ⟨rfl, rfl, rfl, by decide +kernel, rfl, by decide +kernel, by decide +kernel⟩
def b_l_draw : MS := (mSeq (mIfS (mTst (mOp eqT (mOp dgetT (mVar 0) (mC (.str "rest"))) (mC (.int 0)))) (mDput (mVar 0) (mC (.str "rest")) (mIf (mTst (mOp neT (mOp dgetT (mVar 0) (mC (.str "great"))) (mLst mNil))) (mMet isL popAtT (mOp dgetT (mVar 0) (mC (.str "great"))) (mCons (mC (.int 0)) mNil)) (mCall 1 (drop m_l_mixed) [] (mCons (mVar 0) mNil)))) mNext) (mSeq (mSet 2 (mOp modT (mCB intX (mCons (mOp dgetT (mVar 0) (mC (.str "rest"))) mNil)) (mVar 1))) (mSeq (mDput (mVar 0) (mC (.str "rest")) (mOp fdivT (mOp dgetT (mVar 0) (mC (.str "rest"))) (mVar 1))) (mRet (mVar 2)))))
def m_l_draw : MF := mDef 3 b_l_draw
theorem bd_l_draw (Z : Fx K mg base) {cdv : Value} {A : Around} {outer : List Env} {s : Shared} {H : Hp} {E : XK} (hr : Room 1 (A.deeper (envOfC d_l_draw.qual d_l_draw.scope s.heap.objs.size (He.fAd K ("_law_draw", none)) cdv))) :
    SSs (gam w K Λ) (cxOf (L2.CX P w) P w K mg base N_l_draw d_l_draw.qual d_l_draw.scope (He.fAd K ("_law_draw", none)) cdv A outer s H E) (fun cls d _ H => E cls d H) d_l_draw.body b_l_draw :=
  (sSs_cons (sS_if (sT_cmp (op_eqA hr.units) ok_eq (sE_dget (by have := hr.units; exact ur1 this) (sE_var 0) sE_str) sE_int) (sSs_one (sS_dput (by have := hr.units; exact ur1 this) (sE_var 0) sE_str (sE_if (sT_cmp (op_neA hr.units) ok_ne (sE_dget (by have := hr.units; exact ur1 this) (sE_var 0) sE_str) (sE_lst sA_nil)) (sE_met PySem.F.plainAttrs_list PySem.F.slot_list_pop PySem.F.type_list_pop mt_popAt ok_popAt ty_list (sE_dget (by have := hr.units; exact ur1 this) (sE_var 0) sE_str) (sA_cons sE_int sA_nil)) (sE_kallD (ok_l_mixed Z) takesF hr (by decide) Z.g__law_mixed (sA_cons (sE_var 0) sA_nil))))) sSs_nil) (sSs_cons (sS_set 2 (sE_op op_mod ok_mod (sE_callTy call_int1 ok_intX Z.f_int boot_int (sA_cons (sE_dget (by have := hr.units; exact ur1 this) (sE_var 0) sE_str) sA_nil)) (sE_var 1)) (S_l_draw).nd) (sSs_cons (sS_dput (by have := hr.units; exact ur1 this) (sE_var 0) sE_str (sE_op op_fdivW ok_fdiv (sE_dget (by have := hr.units; exact ur1 this) (sE_var 0) sE_str) (sE_var 1))) (sSs_one (sS_ret (sE_var 2))))))
theorem ok_l_draw (Z : Fx K mg base) : Kept P w K mg base (gam w K Λ) 2 (He.fAd K ("_law_draw", none)) ["state", "room"] 2 m_l_draw := by
  obtain ⟨fd, F⟩ := Z.c.def_ 57 (d := d_l_draw) rfl
  exact Kept.mk' F S_l_draw rfl (fun _ _ _ _ _ _ us hl => match us, hl with | [_, _], _ => rfl) fun cdv A outer s H E hr => bd_l_draw Z hr
/-! _law_pick -/
def N_l_pick : List Str := ["state", "some"]
theorem S_l_pick : FnScope N_l_pick ["state", "some"] (d_l_pick).scope := ⟨rfl, rfl, rfl, by decide +kernel, rfl, by decide +kernel, by decide +kernel⟩
def b_l_pick : MS := (mRet (mOp ixT (mVar 1) (mCall 2 (drop m_l_draw) [] (mCons (mVar 0) (mCons (mCB lenB (mCons (mVar 1) mNil)) mNil)))))
def m_l_pick : MF := mDef 2 b_l_pick
theorem bd_l_pick (Z : Fx K mg base) {cdv : Value} {A : Around} {outer : List Env} {s : Shared} {H : Hp} {E : XK} (hr : Room 2 (A.deeper (envOfC d_l_pick.qual d_l_pick.scope s.heap.objs.size (He.fAd K ("_law_pick", none)) cdv))) :
    SSs (gam w K Λ) (cxOf (L2.CX P w) P w K mg base N_l_pick d_l_pick.qual d_l_pick.scope (He.fAd K ("_law_pick", none)) cdv A outer s H E) (fun cls d _ H => E cls d H) d_l_pick.body b_l_pick :=
  (sSs_one (sS_ret (sE_ix (sE_var 1) (sE_kallD (ok_l_draw Z) takesF hr (by decide) Z.g__law_draw (sA_cons (sE_var 0) (sA_cons (sE_callB call_lenA ok_len Z.f_len boot_len (sA_cons (sE_var 1) sA_nil)) sA_nil))) rfl)))
theorem ok_l_pick (Z : Fx K mg base) : Kept P w K mg base (gam w K Λ) 3 (He.fAd K ("_law_pick", none)) ["state", "some"] 2 m_l_pick := by
  obtain ⟨fd, F⟩ := Z.c.def_ 58 (d := d_l_pick) rfl
  exact Kept.mk' F S_l_pick rfl (fun _ _ _ _ _ _ us hl => match us, hl with | [_, _], _ => rfl) fun cdv A outer s H E hr => bd_l_pick Z hr
/-! _law_caught -/
def N_l_caught : List Str := ["action", "found", "error"]
theorem S_l_caught : FnScope N_l_caught ["action"] (d_l_caught).scope := ⟨rfl, rfl, rfl, by decide +kernel, rfl, by decide +kernel, by decide +kernel⟩
theorem Fx.caught (Z : Fx K mg base) (kk : Nat) {X : Cx} {W : WX} {m : ME} {params : Arguments} {body : Expr} {scope : Scope} {p lpos pos : Pos} (hr : Room (kk + 2) X.A) (tb : LamX.TabB base mg (He.cT K ("law", none)).1 (He.cT K ("law", none)).2)
    (hbody : ∀ (A : Around) (outer : List Env) (s : Shared) (H : Hp) (E : XK) (f c' : Addr), Room kk (A.deeper (LamX.lamEnv X scope s.heap.objs.size f c')) → SE (gam w K Λ) (LamX.lamCx X A outer s H E scope f c') (WF E) body m)
    (hcode : X.env.code = .ref (He.cT K ("law", none)).1 := by rfl) (hq : X.env.qual ++ "<lambda>" = lamQ := by rfl) (L : LamX.LamS X.env.scope scope := by exact LamX.lamS_by (by rfl)) (hK : X.K = K := by rfl) (hmg : X.mg = mg := by rfl) (hba : X.base = base := by rfl)
    (hdef : defaultsOf params X.env = ([], []) := by rfl) (hbind : ∀ (q : Str) (cl : List (Str × Addr)) (pm cv ctv : Value), bindArgs (PySem.W.kla_fn "<lambda>" q params body scope cl pm cv ctv) ⟨[], []⟩ = pure [] := by intro _ _ _ _ _; rfl) (hg : Gl X "_law_caught" := by rfl) :
    SE (gam w K Λ) X W (.Call (.Name "_law_caught" p) [.Lambda params body scope lpos] [] pos) (mCaught 0 0 subW m) := by
  subst hK; subst hmg; subst hba
  obtain ⟨fd, F⟩ := Z.c.def_ 59 (d := d_l_caught) rfl
  exact sE_caught 0 0 (CS := He.ga X.K "WishError") Z.g__law_caught F.kp F (F.bindsN fun _ _ _ _ _ _ us hl => match us, hl with | [_], _ => rfl) S_l_caught rfl (.inl rfl)
    (fun cdv => caught_gives rfl Z.g_WishError (by decide) rfl S_l_caught.nd rfl rfl (by decide) (by decide) (by decide) (by decide) (fun _ => rfl) (fun _ => rfl) (fun _ => rfl)) tb hcode (by rw [hq]; rfl) hr L (subW_ok Z) hbody hdef hbind hg (by decide) (by decide) (by decide)
/-! _law_form -/
def N_l_form : List Str := ["marks", "row", "mark", "one"]
theorem S_l_form : FnScope N_l_form ["marks", "row"] (d_l_form).scope := ⟨rfl, rfl, rfl, by decide +kernel, rfl, by decide +kernel, by decide +kernel⟩
def b_l_form : MS := (mRet (mTup (mCons (mCB tupleB (mCons (mLc (mZip (mCons (mVar 0) (mCons (mVar 1) mNil))) [2, 3] (agT 2 (agCons (agN 2) (agCons (agN 3) agNil))) (mTst (mOp neT (mVar 3) (mC (.int 0)))) (mTup (mCons (mVar 2) (mCons (mTup (mCons (mVar 3) (mCons (mC (.int 1)) mNil))) mNil)))) mNil)) (mCons (mTup (mCons (mOp ixT (mVar 1) (mNeg (mC (.int 1)))) (mCons (mC (.int 1)) mNil))) mNil))))
def m_l_form : MF := mDef 4 b_l_form
theorem bd_l_form (Z : Fx K mg base) {cdv : Value} {A : Around} {outer : List Env} {s : Shared} {H : Hp} {E : XK} (hr : Room 0 (A.deeper (envOfC d_l_form.qual d_l_form.scope s.heap.objs.size (He.fAd K ("_law_form", none)) cdv))) :
    SSs (gam w K Λ) (cxOf (L2.CX P w) P w K mg base N_l_form d_l_form.qual d_l_form.scope (He.fAd K ("_law_form", none)) cdv A outer s H E) (fun cls d _ H => E cls d H) d_l_form.body b_l_form :=
  (sSs_one (sS_ret (sE_tup (sA_cons (sE_callTy call_tupF ok_tuple Z.f_tuple boot_tuple (sA_cons (sE_lc (sI_zip rfl Z.f_zip (sA_cons (sE_var 0) (sA_cons (sE_var 1) sA_nil))) (S_l_form).nd (blkOk_by (own := [("mark", 2), ("one", 3)]) (by rfl)) (fun _ _ _ _ _ => (sG_tup rfl (sGs_cons (sG_name 2 (S_l_form).nd) (sGs_cons (sG_name 3 (S_l_form).nd) sGs_nil)))) (fun _ _ _ _ _ => (sTs_one (sT_cmp (op_neA hr.units) ok_ne (sE_var 3) sE_int))) (fun _ _ _ _ _ => (sE_tup (sA_cons (sE_var 2) (sA_cons (sE_tup (sA_cons (sE_var 3) (sA_cons sE_int sA_nil))) sA_nil))))) sA_nil)) (sA_cons (sE_tup (sA_cons (sE_ix (sE_var 1) (sE_neg sE_int) rfl) (sA_cons sE_int sA_nil))) sA_nil)))))
theorem ok_l_form (Z : Fx K mg base) : Kept P w K mg base (gam w K Λ) 1 (He.fAd K ("_law_form", none)) ["marks", "row"] 2 m_l_form := by
  obtain ⟨fd, F⟩ := Z.c.def_ 60 (d := d_l_form) rfl
  exact Kept.mk' F S_l_form rfl (fun _ _ _ _ _ _ us hl => match us, hl with | [_, _], _ => rfl) fun cdv A outer s H E hr => bd_l_form Z hr
/-! _law_line -/
def N_l_line : List Str := ["marks", "row"]
theorem S_l_line : FnScope N_l_line ["marks", "row"] (d_l_line).scope := ⟨rfl, rfl, rfl, by decide +kernel, rfl, by decide +kernel, by decide +kernel⟩
def b_l_line : MS := (mRet (mTup (mCons (mCall 2 (iso m_l_form) [] (mCons (mVar 0) (mCons (mVar 1) mNil))) (mCons (mC (.str "<=")) mNil))))
def m_l_line : MF := mDef 2 b_l_line
theorem bd_l_line (Z : Fx K mg base) {cdv : Value} {A : Around} {outer : List Env} {s : Shared} {H : Hp} {E : XK} (hr : Room 1 (A.deeper (envOfC d_l_line.qual d_l_line.scope s.heap.objs.size (He.fAd K ("_law_line", none)) cdv))) :
    SSs (gam w K Λ) (cxOf (L2.CX P w) P w K mg base N_l_line d_l_line.qual d_l_line.scope (He.fAd K ("_law_line", none)) cdv A outer s H E) (fun cls d _ H => E cls d H) d_l_line.body b_l_line :=
  (sSs_one (sS_ret (sE_tup (sA_cons (sE_kallI (ok_l_form Z) takesF hr (by decide) Z.g__law_form (sA_cons (sE_var 0) (sA_cons (sE_var 1) sA_nil))) (sA_cons sE_str sA_nil)))))
theorem ok_l_line (Z : Fx K mg base) : Kept P w K mg base (gam w K Λ) 2 (He.fAd K ("_law_line", none)) ["marks", "row"] 2 m_l_line := by
  obtain ⟨fd, F⟩ := Z.c.def_ 61 (d := d_l_line) rfl
  exact Kept.mk' F S_l_line rfl (fun _ _ _ _ _ _ us hl => match us, hl with | [_, _], _ => rfl) fun cdv A outer s H E hr => bd_l_line Z hr
/-! _law_word -/
def N_l_word : List Str := ["action", "caught", "found", "word", "is_so"]
theorem S_l_word : FnScope N_l_word ["action"] (d_l_word).scope := ⟨rfl, rfl, rfl, by decide +kernel, rfl, by decide +kernel, by decide +kernel⟩
def b_l_word : MS := (mSeq (mSet 2 (mLst (mCons (mTup (mCons (mC (.str "cell")) (mCons (mCB (isiB isa) (mCons (mVar 1) (mCons (mC (.cls 3)) mNil))) mNil))) (mCons (mTup (mCons (mC (.str "marked")) (mCons (mCB (isiB isa) (mCons (mVar 1) (mCons (mC (.cls 4)) mNil))) mNil))) (mCons (mTup (mCons (mC (.str "place")) (mCons (mCB (isiB isa) (mCons (mVar 1) (mCons (mC (.cls 5)) mNil))) mNil))) (mCons (mTup (mCons (mC (.str "lot")) (mCons (mCB (isiB isa) (mCons (mVar 1) (mCons (mC (.cls 6)) mNil))) mNil))) mNil)))))) (mSeq (mSet 2 (mOp addT (mVar 2) (mLst (mCons (mTup (mCons (mC (.str "name")) (mCons (mCB (isiB isa) (mCons (mVar 1) (mCons (mC (.cls 2)) mNil))) mNil))) mNil)))) (mRet (mOp ixT (mLc (mIA (mOp addT (mVar 2) (mLst (mCons (mTup (mCons (mC (.str "none")) (mCons (mOp (isN true) (mVar 1) (mC .non)) mNil))) (mCons (mTup (mCons (mC (.str "other")) (mCons (mC (.bl true)) mNil))) mNil))))) [3, 4] (agT 2 (agCons (agN 3) (agCons (agN 4) agNil))) (mTst (mVar 4)) (mVar 3)) (mC (.int 0))))))
theorem bd_l_word (Z : Fx K mg base) {cdv : Value} {A : Around} {outer : List Env} {s : Shared} {H : Hp} {E : XK} (hr : Room 0 (A.deeper (envOfC d_l_word.qual d_l_word.scope s.heap.objs.size (He.fAd K ("_law_word", none)) cdv))) :
    SSs (gam w K Λ) (cxOf (L2.CX P w) P w K mg base N_l_word d_l_word.qual d_l_word.scope (He.fAd K ("_law_word", none)) cdv A outer s H E) (fun cls d _ H => E cls d H) d_l_word.body.tail b_l_word :=
  (sSs_cons (sS_set 2 (sE_lst (sA_cons (sE_tup (sA_cons sE_str (sA_cons (sE_callB call_isA (ok_isi Z.isaZ) Z.f_isinstance boot_isinstance (sA_cons (sE_var 1) (sA_cons (sE_cls 3 Z.g_NoCell) sA_nil))) sA_nil))) (sA_cons (sE_tup (sA_cons sE_str (sA_cons (sE_callB call_isA (ok_isi Z.isaZ) Z.f_isinstance boot_isinstance (sA_cons (sE_var 1) (sA_cons (sE_cls 4 Z.g_NoMarked) sA_nil))) sA_nil))) (sA_cons (sE_tup (sA_cons sE_str (sA_cons (sE_callB call_isA (ok_isi Z.isaZ) Z.f_isinstance boot_isinstance (sA_cons (sE_var 1) (sA_cons (sE_cls 5 Z.g_NoPlace) sA_nil))) sA_nil))) (sA_cons (sE_tup (sA_cons sE_str (sA_cons (sE_callB call_isA (ok_isi Z.isaZ) Z.f_isinstance boot_isinstance (sA_cons (sE_var 1) (sA_cons (sE_cls 6 Z.g_NoLot) sA_nil))) sA_nil))) sA_nil))))) (S_l_word).nd) (sSs_cons (sS_set 2 (sE_op op_addA ok_add (sE_var 2) (sE_lst (sA_cons (sE_tup (sA_cons sE_str (sA_cons (sE_callB call_isA (ok_isi Z.isaZ) Z.f_isinstance boot_isinstance (sA_cons (sE_var 1) (sA_cons (sE_cls 2 Z.g_NoName) sA_nil))) sA_nil))) sA_nil))) (S_l_word).nd) (sSs_one (sS_ret (sE_ix (sE_lc (sI_any rfl (sE_op op_addA ok_add (sE_var 2) (sE_lst (sA_cons (sE_tup (sA_cons sE_str (sA_cons (sE_cmp op_isN ok_isN (sE_var 1) sE_non) sA_nil))) (sA_cons (sE_tup (sA_cons sE_str (sA_cons sE_bl sA_nil))) sA_nil))))) (S_l_word).nd (blkOk_by (own := [("word", 3), ("is_so", 4)]) (by rfl)) (fun _ _ _ _ _ => (sG_tup rfl (sGs_cons (sG_name 3 (S_l_word).nd) (sGs_cons (sG_name 4 (S_l_word).nd) sGs_nil)))) (fun _ _ _ _ _ => (sTs_one (sT_val (sE_var 4)))) (fun _ _ _ _ _ => (sE_var 3))) sE_int rfl)))))
theorem Fx.wordV_l_word (Z : Fx K mg base) (kk : Nat) (hkk : 0 ≤ kk + 2) {X : Cx} {W : WX} {tbl : Nat → ME} {ea : Expr} {ma : ME} {p pos : Pos} (tk : Takes X W) (hr : Room (kk + 3) X.A) (he : SE (gam w K Λ) X W ea ma) (hT : ∀ j D, LT j = some D → LamOk (gam w K Λ) X kk D (tbl j))
    (hΛ : Λ = lamOf X LT := by rfl) (hq : X.env.qual ++ "<lambda>" = lamQ := by rfl) (hw : X.w = w := by rfl) (hK : X.K = K := by rfl) (hmg : X.mg = mg := by rfl) (hba : X.base = base := by rfl) (hg : Gl X "_law_word" := by rfl)
    (he0 : starEach [ea] X.env = (false, eval ea X.env) :: starEach [] X.env := by rfl) (hpl : (backTo pos (starEach [] X.env)).any (·.1) = false := by rfl) :
    SE (gam w K Λ) X W (.Call (.Name "_law_word" p) [ea] [] pos) (mWordV subW tbl 5 1 b_l_word ma) := by
  subst hw; subst hK; subst hmg; subst hba
  obtain ⟨fd, F⟩ := Z.c.def_ 59 (d := d_l_caught) rfl
  obtain ⟨fd2, F2⟩ := Z.c.def_ 62 (d := d_l_word) rfl
  exact sE_wordV (CS := He.ga X.K "WishError") (LT := LT) (N2 := N_l_word) (iy := 1) he (fun j f c' => by rw [← hΛ]; rfl) (by rw [hq]; rfl) hT tk Z.g__law_word F2.kp F2 (F2.bindsN fun _ _ _ _ _ _ us hl => match us, hl with | [_], _ => rfl) S_l_word rfl rfl rfl (.inl rfl) rfl (fun cdv A outer s H E hr => bd_l_word Z (hr.mono hkk)) Z.g__law_caught F.kp F (F.bindsN fun _ _ _ _ _ _ us hl => match us, hl with | [_], _ => rfl) S_l_caught rfl (.inl rfl)
    (fun cdv2 s H E cdv => caught_gives rfl Z.g_WishError (by decide) rfl S_l_caught.nd rfl rfl (by decide) (by decide) (by decide) (by decide) (fun _ => rfl) (fun _ => rfl) (fun _ => rfl)) hr (subW_ok Z) (fun _ _ _ _ => rfl) (fun _ => rfl) hg (by decide) (by decide) (by decide) (by decide) (by decide) (by decide) he0 hpl
/-! law -/
def N_law : List Str := ["script", "state", "turn", "no_marks", "cell", "no_cell", "no_lines", "some", "no_bounds", "words", "work"]
theorem S_law : FnScope N_law ["script"] (d_law).scope := ⟨rfl, rfl, rfl, by decide +kernel, rfl, by decide +kernel, by decide +kernel⟩
def tblF : Nat → Option (Nat × MF)
  | 0 => some (2, m_corners)
  | 1 => some (2, m_inner)
  | 2 => some (2, m_volume)
  | 3 => some (3, m_meet)
  | 4 => some (3, m_without)
  | _ => none
theorem tblF_ok (Z : Fx K mg base) : ∀ j n m, tblF j = some (n, m) → ∃ k ps, k ≤ 15 ∧ Kept P w K mg base (gam w K Λ) k ((gam w K Λ).fad j) ps n m
  | 0, _, _, e => by cases e; exact ⟨_, _, by decide, ok_corners Z⟩
  | 1, _, _, e => by cases e; exact ⟨_, _, by decide, ok_inner Z⟩
  | 2, _, _, e => by cases e; exact ⟨_, _, by decide, ok_volume Z⟩
  | 3, _, _, e => by cases e; exact ⟨_, _, by decide, ok_meet Z⟩
  | 4, _, _, e => by cases e; exact ⟨_, _, by decide, ok_without Z⟩
  | _ + 5, _, _, e => nomatch e
def lamM : Nat → ME
  | 0 => (mCall 2 (iso m_cell_of) [] (mCons (mVar 3) (mCons (mVar 4) mNil)))
  | 1 => (mCall 2 (iso m_cell_of) [] (mCons (mTup (mCons (mC (.str "m")) mNil)) (mCons (mVar 6) mNil)))
  | 2 => (mCall 2 (iso m_is_cell) [] (mCons (mVar 3) (mCons (mC .non) mNil)))
  | 3 => (mCall 2 (iso m_box) [] (mCons (mVar 3) (mCons (mVar 8) mNil)))
  | 4 => (mCall 2 (iso m_box) [] (mCons (mTup (mCons (mC (.str "m")) mNil)) (mCons (mVar 8) mNil)))
  | 5 => (mCallF 10 tblF (mCons (mVar 3) (mCons (mVar 5) mNil)))
  | 6 => (mCallF 10 tblF (mCons (mTup (mCons (mC (.str "m")) mNil)) (mCons (mVar 5) mNil)))
  | 7 => (mCallF 10 tblF (mCons (mTup (mCons (mC (.str "n")) mNil)) (mCons (mVar 4) mNil)))
  | 8 => (mCallF 10 tblF (mCons (mVar 3) (mCons (mVar 5) (mCons (mVar 5) mNil))))
  | 9 => (mCallF 10 tblF (mCons (mTup (mCons (mC (.str "m")) mNil)) (mCons (mVar 5) (mCons (mVar 4) mNil))))
  | 10 => (mCallF 10 tblF (mCons (mTup (mCons (mC (.str "m")) mNil)) (mCons (mVar 4) (mCons (mVar 5) mNil))))
  | 11 => (mCall 3 (iso m_cut) [] (mCons (mVar 3) (mCons (mVar 4) (mCons (mC .non) mNil))))
  | 12 => (mCall 3 (iso m_cut) [] (mCons (mTup (mCons (mC (.str "m")) mNil)) (mCons (mVar 5) (mCons (mC .non) mNil))))
  | 13 => (mCall 3 (iso m_cut) [] (mCons (mTup (mCons (mC (.str "m")) mNil)) (mCons (mVar 4) (mCons (mCall 2 (drop m_l_pick) [] (mCons (mVar 1) (mCons (mLst (mCons (mC .non) (mCons (mTup mNil) (mCons (mCall 2 (iso m_l_line) [] (mCons (mTup (mCons (mC (.str "z")) mNil)) (mCons (mLst (mCons (mC (.int 1)) (mCons (mC (.int 1)) mNil))) mNil))) (mCons (mTup (mCons (mCall 2 (iso m_l_form) [] (mCons (mTup (mCons (mC (.str "m")) mNil)) (mCons (mLst (mCons (mC (.int 1)) (mCons (mC (.int 1)) mNil))) mNil))) (mCons (mC (.str "<")) mNil))) (mCons (mCall 2 (iso m_l_form) [] (mCons (mTup (mCons (mC (.str "m")) mNil)) (mCons (mLst (mCons (mC (.int 1)) (mCons (mC (.int 1)) mNil))) mNil))) mNil)))))) mNil))) mNil))))
  | 14 => (mCall 2 (iso m_are_apart) [] (mCons (mVar 3) (mCons (mLst mNil) mNil)))
  | 15 => (mCall 2 (iso m_are_apart) [] (mCons (mTup (mCons (mC (.str "m")) mNil)) (mCons (mCall 2 (drop m_l_pick) [] (mCons (mVar 1) (mCons (mLst (mCons (mC .non) (mCons (mC (.int 5)) (mCons (mLst (mCons (mC .non) mNil)) (mCons (mLst (mCons (mVar 4) (mCons (mVar 5) mNil))) mNil))))) mNil))) mNil)))
  | 16 => (mCall 3 (iso m_fills) [] (mCons (mVar 3) (mCons (mVar 4) (mCons (mLst mNil) mNil))))
  | 17 => (mCall 3 (iso m_fills) [] (mCons (mTup (mCons (mC (.str "m")) mNil)) (mCons (mVar 5) (mCons (mLst mNil) mNil))))
  | 18 => (mCall 3 (iso m_fills) [] (mCons (mTup (mCons (mC (.str "m")) mNil)) (mCons (mVar 4) (mCons (mCall 2 (drop m_l_pick) [] (mCons (mVar 1) (mCons (mLst (mCons (mC .non) (mCons (mC (.int 5)) (mCons (mLst (mCons (mC .non) mNil)) (mCons (mLst (mCons (mVar 4) (mCons (mVar 5) mNil))) mNil))))) mNil))) mNil))))
  | _ => fun _ _ => .no
theorem lamT (Z : Fx K mg base) {A : Around} {outer : List Env} {s : Shared} {H : Hp} {E : XK} : ∀ j D, LT j = some D → LamOk (gam w K Λ) (cxOf (L2.CX P w) P w K mg base N_law d_law.qual d_law.scope (He.fAd K ("law", none)) (.ref (He.cT K ("law", none)).1) A outer s H E) 16 D (lamM j)
  | 0, _, e => by cases e; exact ⟨LamX.lamS_by (by rfl), (by intro _ _ _ _ _; rfl), fun A outer s H E f c' hr => (sE_kallI (ok_cell_of Z) takesLam hr (by decide) Z.g_cell_of (sA_cons (sE_var 3) (sA_cons (sE_var 4) sA_nil)))⟩
  | 1, _, e => by cases e; exact ⟨LamX.lamS_by (by rfl), (by intro _ _ _ _ _; rfl), fun A outer s H E f c' hr => (sE_kallI (ok_cell_of Z) takesLam hr (by decide) Z.g_cell_of (sA_cons (sE_tup (sA_cons sE_str sA_nil)) (sA_cons (sE_var 6) sA_nil)))⟩
  | 2, _, e => by cases e; exact ⟨LamX.lamS_by (by rfl), (by intro _ _ _ _ _; rfl), fun A outer s H E f c' hr => (sE_kallI (ok_is_cell Z) takesLam hr (by decide) Z.g_is_cell (sA_cons (sE_var 3) (sA_cons sE_non sA_nil)))⟩
  | 3, _, e => by cases e; exact ⟨LamX.lamS_by (by rfl), (by intro _ _ _ _ _; rfl), fun A outer s H E f c' hr => (sE_kallI (ok_box Z) takesLam hr (by decide) Z.g_box (sA_cons (sE_var 3) (sA_cons (sE_var 8) sA_nil)))⟩
  | 4, _, e => by cases e; exact ⟨LamX.lamS_by (by rfl), (by intro _ _ _ _ _; rfl), fun A outer s H E f c' hr => (sE_kallI (ok_box Z) takesLam hr (by decide) Z.g_box (sA_cons (sE_tup (sA_cons sE_str sA_nil)) (sA_cons (sE_var 8) sA_nil)))⟩
  | 5, _, e => by cases e; exact ⟨LamX.lamS_by (by rfl), (by intro _ _ _ _ _; rfl), fun A outer s H E f c' hr => (sE_callF 10 (kx := 15) (fun j n m e => tblF_ok Z j n m e) takesLam (hr.mono (by decide)) (sA_cons (sE_var 3) (sA_cons (sE_var 5) sA_nil)))⟩
  | 6, _, e => by cases e; exact ⟨LamX.lamS_by (by rfl), (by intro _ _ _ _ _; rfl), fun A outer s H E f c' hr => (sE_callF 10 (kx := 15) (fun j n m e => tblF_ok Z j n m e) takesLam (hr.mono (by decide)) (sA_cons (sE_tup (sA_cons sE_str sA_nil)) (sA_cons (sE_var 5) sA_nil)))⟩
  | 7, _, e => by cases e; exact ⟨LamX.lamS_by (by rfl), (by intro _ _ _ _ _; rfl), fun A outer s H E f c' hr => (sE_callF 10 (kx := 15) (fun j n m e => tblF_ok Z j n m e) takesLam (hr.mono (by decide)) (sA_cons (sE_tup (sA_cons sE_str sA_nil)) (sA_cons (sE_var 4) sA_nil)))⟩
  | 8, _, e => by cases e; exact ⟨LamX.lamS_by (by rfl), (by intro _ _ _ _ _; rfl), fun A outer s H E f c' hr => (sE_callF 10 (kx := 15) (fun j n m e => tblF_ok Z j n m e) takesLam (hr.mono (by decide)) (sA_cons (sE_var 3) (sA_cons (sE_var 5) (sA_cons (sE_var 5) sA_nil))))⟩
  | 9, _, e => by cases e; exact ⟨LamX.lamS_by (by rfl), (by intro _ _ _ _ _; rfl), fun A outer s H E f c' hr => (sE_callF 10 (kx := 15) (fun j n m e => tblF_ok Z j n m e) takesLam (hr.mono (by decide)) (sA_cons (sE_tup (sA_cons sE_str sA_nil)) (sA_cons (sE_var 5) (sA_cons (sE_var 4) sA_nil))))⟩
  | 10, _, e => by cases e; exact ⟨LamX.lamS_by (by rfl), (by intro _ _ _ _ _; rfl), fun A outer s H E f c' hr => (sE_callF 10 (kx := 15) (fun j n m e => tblF_ok Z j n m e) takesLam (hr.mono (by decide)) (sA_cons (sE_tup (sA_cons sE_str sA_nil)) (sA_cons (sE_var 4) (sA_cons (sE_var 5) sA_nil))))⟩
  | 11, _, e => by cases e; exact ⟨LamX.lamS_by (by rfl), (by intro _ _ _ _ _; rfl), fun A outer s H E f c' hr => (sE_kallI (ok_cut Z) takesLam hr (by decide) Z.g_cut (sA_cons (sE_var 3) (sA_cons (sE_var 4) (sA_cons sE_non sA_nil))))⟩
  | 12, _, e => by cases e; exact ⟨LamX.lamS_by (by rfl), (by intro _ _ _ _ _; rfl), fun A outer s H E f c' hr => (sE_kallI (ok_cut Z) takesLam hr (by decide) Z.g_cut (sA_cons (sE_tup (sA_cons sE_str sA_nil)) (sA_cons (sE_var 5) (sA_cons sE_non sA_nil))))⟩
  | 13, _, e => by cases e; exact ⟨LamX.lamS_by (by rfl), (by intro _ _ _ _ _; rfl), fun A outer s H E f c' hr => (sE_kallI (ok_cut Z) takesLam hr (by decide) Z.g_cut (sA_cons (sE_tup (sA_cons sE_str sA_nil)) (sA_cons (sE_var 4) (sA_cons (sE_kallD (ok_l_pick Z) takesLam hr (by decide) Z.g__law_pick (sA_cons (sE_var 1) (sA_cons (sE_lst (sA_cons sE_non (sA_cons (sE_tup sA_nil) (sA_cons (sE_kallI (ok_l_line Z) takesLam hr (by decide) Z.g__law_line (sA_cons (sE_tup (sA_cons sE_str sA_nil)) (sA_cons (sE_lst (sA_cons sE_int (sA_cons sE_int sA_nil))) sA_nil))) (sA_cons (sE_tup (sA_cons (sE_kallI (ok_l_form Z) takesLam hr (by decide) Z.g__law_form (sA_cons (sE_tup (sA_cons sE_str sA_nil)) (sA_cons (sE_lst (sA_cons sE_int (sA_cons sE_int sA_nil))) sA_nil))) (sA_cons sE_str sA_nil))) (sA_cons (sE_kallI (ok_l_form Z) takesLam hr (by decide) Z.g__law_form (sA_cons (sE_tup (sA_cons sE_str sA_nil)) (sA_cons (sE_lst (sA_cons sE_int (sA_cons sE_int sA_nil))) sA_nil))) sA_nil)))))) sA_nil))) sA_nil))))⟩
  | 14, _, e => by cases e; exact ⟨LamX.lamS_by (by rfl), (by intro _ _ _ _ _; rfl), fun A outer s H E f c' hr => (sE_kallI (ok_are_apart Z) takesLam hr (by decide) Z.g_are_apart (sA_cons (sE_var 3) (sA_cons (sE_lst sA_nil) sA_nil)))⟩
  | 15, _, e => by cases e; exact ⟨LamX.lamS_by (by rfl), (by intro _ _ _ _ _; rfl), fun A outer s H E f c' hr => (sE_kallI (ok_are_apart Z) takesLam hr (by decide) Z.g_are_apart (sA_cons (sE_tup (sA_cons sE_str sA_nil)) (sA_cons (sE_kallD (ok_l_pick Z) takesLam hr (by decide) Z.g__law_pick (sA_cons (sE_var 1) (sA_cons (sE_lst (sA_cons sE_non (sA_cons sE_int (sA_cons (sE_lst (sA_cons sE_non sA_nil)) (sA_cons (sE_lst (sA_cons (sE_var 4) (sA_cons (sE_var 5) sA_nil))) sA_nil))))) sA_nil))) sA_nil)))⟩
  | 16, _, e => by cases e; exact ⟨LamX.lamS_by (by rfl), (by intro _ _ _ _ _; rfl), fun A outer s H E f c' hr => (sE_kallI (ok_fills Z) takesLam hr (by decide) Z.g_fills (sA_cons (sE_var 3) (sA_cons (sE_var 4) (sA_cons (sE_lst sA_nil) sA_nil))))⟩
  | 17, _, e => by cases e; exact ⟨LamX.lamS_by (by rfl), (by intro _ _ _ _ _; rfl), fun A outer s H E f c' hr => (sE_kallI (ok_fills Z) takesLam hr (by decide) Z.g_fills (sA_cons (sE_tup (sA_cons sE_str sA_nil)) (sA_cons (sE_var 5) (sA_cons (sE_lst sA_nil) sA_nil))))⟩
  | 18, _, e => by cases e; exact ⟨LamX.lamS_by (by rfl), (by intro _ _ _ _ _; rfl), fun A outer s H E f c' hr => (sE_kallI (ok_fills Z) takesLam hr (by decide) Z.g_fills (sA_cons (sE_tup (sA_cons sE_str sA_nil)) (sA_cons (sE_var 4) (sA_cons (sE_kallD (ok_l_pick Z) takesLam hr (by decide) Z.g__law_pick (sA_cons (sE_var 1) (sA_cons (sE_lst (sA_cons sE_non (sA_cons sE_int (sA_cons (sE_lst (sA_cons sE_non sA_nil)) (sA_cons (sE_lst (sA_cons (sE_var 4) (sA_cons (sE_var 5) sA_nil))) sA_nil))))) sA_nil))) sA_nil))))⟩
  | _ + 19, _, e => nomatch e
def b_law : MS := (mSeq (mSet 1 (mCall 1 m_l_begun [] (mCons (mVar 0) mNil))) (mSeq (mFor (mIR1 (mCons (mOp addT (mC (.int 3)) (mCB minB (mCons (mCB lenB (mCons (mVar 0) mNil)) (mCons (mC (.int 4)) mNil)))) mNil)) (agN 2) (mSeq (mSet 3 (mCall 2 (drop m_l_pick) [] (mCons (mVar 1) (mCons (mLst (mCons (mC .non) (mCons (mTup mNil) (mCons (mTup (mCons (mC (.str "n")) (mCons (mC (.str "m")) mNil))) (mCons (mTup (mCons (mC (.str "m")) (mCons (mC (.str "m")) mNil))) (mCons (mLst (mCons (mC (.str "m")) mNil)) (mCons (mTup (mCons (mC (.str "M")) mNil)) (mCons (mTup (mCons (mC (.str "m")) (mCons (mC (.str "n")) (mCons (mC (.str "o")) (mCons (mC (.str "p")) mNil))))) (mCons (mTup (mCons (mC (.str "no")) mNil)) (mCons (mC (.str "m")) (mCons (mTup (mCons (mC (.int 5)) mNil)) mNil))))))))))) mNil)))) (mSeq (mSet 4 (mCall 2 (iso m_box) [] (mCons (mTup (mCons (mC (.str "m")) mNil)) (mCons (mDisp false (mPc (mC (.str "m")) (mTup (mCons (mTup (mCons (mC (.int 0)) (mCons (mC (.int 1)) mNil))) (mCons (mTup (mCons (mC (.int 2)) (mCons (mC (.int 1)) mNil))) mNil))) mP0)) mNil)))) (mSeq (mSet 5 (mCall 2 (drop m_l_pick) [] (mCons (mVar 1) (mCons (mLst (mCons (mC .non) (mCons (mTup mNil) (mCons (mSl (mVar 4) none (some (mC (.int 1)))) (mCons (mRevT (mVar 4)) (mCons (mCB listB (mCons (mVar 4) mNil)) (mCons (mC (.int 5)) (mCons (mTup (mCons (mVar 4) mNil)) (mCons (mOp addT (mVar 4) (mTup (mCons (mC .non) mNil))) mNil))))))))) mNil)))) (mSeq (mSet 6 (mCall 2 (drop m_l_pick) [] (mCons (mVar 1) (mCons (mLst (mCons (mC .non) (mCons (mLst mNil) (mCons (mCB listB (mCons (mVar 4) mNil)) (mCons (mTup (mCons (mC .non) mNil)) (mCons (mTup (mCons (mCall 2 (iso m_l_line) [] (mCons (mTup (mCons (mC (.str "z")) mNil)) (mCons (mLst (mCons (mC (.int 1)) (mCons (mC (.int 1)) mNil))) mNil))) mNil)) (mCons (mTup (mCons (mTup (mCons (mCall 2 (iso m_l_form) [] (mCons (mTup (mCons (mC (.str "m")) mNil)) (mCons (mLst (mCons (mC (.int 1)) (mCons (mC (.int 1)) mNil))) mNil))) (mCons (mC (.str "=")) mNil))) mNil)) (mCons (mOp mulT (mVar 4) (mC (.int 13))) (mCons (mC (.str "m")) (mCons (mTup mNil) mNil)))))))))) mNil)))) (mSeq (mSet 7 (mLst (mCons (mC .non) (mCons (mD0 false) (mCons (mDisp false (mPc (mC (.str "n")) (mTup (mCons (mTup (mCons (mC (.int 0)) (mCons (mC (.int 1)) mNil))) (mCons (mTup (mCons (mC (.int 1)) (mCons (mC (.int 1)) mNil))) mNil))) mP0)) (mCons (mDisp false (mPc (mC (.str "m")) (mTup (mCons (mTup (mCons (mC (.int 1)) (mCons (mC (.int 1)) mNil))) (mCons (mTup (mCons (mC (.int 1)) (mCons (mC (.int 1)) mNil))) mNil))) mP0)) (mCons (mDisp false (mPc (mC (.str "m")) (mTup (mCons (mTup (mCons (mC (.int 2)) (mCons (mC (.int 1)) mNil))) (mCons (mTup (mCons (mC (.int 1)) (mCons (mC (.int 1)) mNil))) mNil))) mP0)) (mCons (mDisp false (mPc (mC (.str "m")) (mTup (mCons (mC (.int 0)) (mCons (mC (.int 1)) mNil))) mP0)) (mCons (mDisp false (mPc (mC (.str "m")) (mTup (mCons (mTup (mCons (mC (.int 0)) (mCons (mC (.int 1)) mNil))) mNil)) mP0)) (mCons (mDisp false (mPc (mC (.str "m")) (mTup (mCons (mTup (mCons (mC (.int 0)) (mCons (mC (.int 1)) mNil))) (mCons (mTup (mCons (mC (.int 2)) (mCons (mC (.int 2)) mNil))) mNil))) mP0)) mNil)))))))))) (mSeq (mSet 8 (mCall 2 (drop m_l_pick) [] (mCons (mVar 1) (mCons (mOp addT (mVar 7) (mLst (mCons (mDisp false (mPc (mC (.str "m")) (mTup (mCons (mTup (mCons (mC (.int 0)) (mCons (mC (.int 1)) mNil))) (mCons (mTup (mCons (mC (.int 1)) (mCons (mC (.int 1)) mNil))) mNil))) (mPc (mC (.str "n")) (mTup (mCons (mTup (mCons (mC (.int 0)) (mCons (mC (.int 1)) mNil))) (mCons (mTup (mCons (mC (.int 1)) (mCons (mC (.int 1)) mNil))) mNil))) mP0))) (mCons (mLst (mCons (mTup (mCons (mTup (mCons (mC (.int 0)) (mCons (mC (.int 1)) mNil))) (mCons (mTup (mCons (mC (.int 1)) (mCons (mC (.int 1)) mNil))) mNil))) mNil)) mNil)))) mNil)))) (mSeq (mSet 9 (mLstM (mCons (mWordV subW lamM 5 1 b_l_word (mLam 0 0 0)) mNil))) (mSeq (mExpr (mMet isL appendT (mVar 9) (mCons (mWordV subW lamM 5 1 b_l_word (mLam 0 0 1)) mNil))) (mSeq (mExpr (mMet isL appendT (mVar 9) (mCons (mWordV subW lamM 5 1 b_l_word (mLam 0 0 2)) mNil))) (mSeq (mExpr (mMet isL appendT (mVar 9) (mCons (mWordV subW lamM 5 1 b_l_word (mLam 0 0 3)) mNil))) (mSeq (mExpr (mMet isL appendT (mVar 9) (mCons (mWordV subW lamM 5 1 b_l_word (mLam 0 0 4)) mNil))) (mSeq (mFor (mIA (mLst (mCons (mC (.fn 0)) (mCons (mC (.fn 1)) (mCons (mC (.fn 2)) mNil))))) (agN 10) (mSeq (mExpr (mMet isL appendT (mVar 9) (mCons (mWordV subW lamM 5 1 b_l_word (mLam 0 0 5)) mNil))) (mSeq (mExpr (mMet isL appendT (mVar 9) (mCons (mWordV subW lamM 5 1 b_l_word (mLam 0 0 6)) mNil))) (mExpr (mMet isL appendT (mVar 9) (mCons (mWordV subW lamM 5 1 b_l_word (mLam 0 0 7)) mNil)))))) (mSeq (mFor (mIA (mLst (mCons (mC (.fn 3)) (mCons (mC (.fn 4)) mNil)))) (agN 10) (mSeq (mExpr (mMet isL appendT (mVar 9) (mCons (mWordV subW lamM 5 1 b_l_word (mLam 0 0 8)) mNil))) (mSeq (mExpr (mMet isL appendT (mVar 9) (mCons (mWordV subW lamM 5 1 b_l_word (mLam 0 0 9)) mNil))) (mExpr (mMet isL appendT (mVar 9) (mCons (mWordV subW lamM 5 1 b_l_word (mLam 0 0 10)) mNil)))))) (mSeq (mExpr (mMet isL appendT (mVar 9) (mCons (mWordV subW lamM 5 1 b_l_word (mLam 0 0 11)) mNil))) (mSeq (mExpr (mMet isL appendT (mVar 9) (mCons (mWordV subW lamM 5 1 b_l_word (mLam 0 0 12)) mNil))) (mSeq (mExpr (mMet isL appendT (mVar 9) (mCons (mWordV subW lamM 5 1 b_l_word (mLam 0 0 13)) mNil))) (mSeq (mExpr (mMet isL appendT (mVar 9) (mCons (mWordV subW lamM 5 1 b_l_word (mLam 0 0 14)) mNil))) (mSeq (mExpr (mMet isL appendT (mVar 9) (mCons (mWordV subW lamM 5 1 b_l_word (mLam 0 0 15)) mNil))) (mSeq (mExpr (mMet isL appendT (mVar 9) (mCons (mWordV subW lamM 5 1 b_l_word (mLam 0 0 16)) mNil))) (mSeq (mExpr (mMet isL appendT (mVar 9) (mCons (mWordV subW lamM 5 1 b_l_word (mLam 0 0 17)) mNil))) (mSeq (mExpr (mMet isL appendT (mVar 9) (mCons (mWordV subW lamM 5 1 b_l_word (mLam 0 0 18)) mNil))) (mSeq (mIfS (mOr (mTst (mOp neT (mVar 9) (mOp mulT (mLst (mCons (mC (.str "cell")) mNil)) (mCB lenB (mCons (mVar 9) mNil))))) (mTst (mOp neT (mVar 4) (mCall 2 (iso m_box) [] (mCons (mTup (mCons (mC (.str "m")) mNil)) (mCons (mDisp false (mPc (mC (.str "m")) (mTup (mCons (mTup (mCons (mC (.int 0)) (mCons (mC (.int 1)) mNil))) (mCons (mTup (mCons (mC (.int 2)) (mCons (mC (.int 1)) mNil))) mNil))) mP0)) mNil)))))) (mRet (mC (.bl false))) mNext) (mIfS (mOr (mTst (mOp (isBT false) (mCall 3 (iso m_fills) [] (mCons (mTup (mCons (mC (.str "m")) mNil)) (mCons (mVar 4) (mCons (mTup (mCons (mVar 4) mNil)) mNil)))) (mC (.bl true)))) (mOr (mTst (mOp (isBT false) (mCall 2 (iso m_are_apart) [] (mCons (mTup (mCons (mC (.str "m")) mNil)) (mCons (mTup mNil) mNil))) (mC (.bl true)))) (mTst (mOp neT (mCall 2 (iso m_cell_of) [] (mCons (mTup (mCons (mC (.str "m")) mNil)) (mCons (mOp addT (mVar 4) (mVar 4)) mNil))) (mVar 4))))) (mRet (mC (.bl false))) mNext)))))))))))))))))))))))) (mRet (mC (.bl true)))))
def m_law : MF := mDef 11 b_law
theorem bd_law (Z : Fx K mg base) (tb : LamX.TabB base mg (He.cT K ("law", none)).1 (He.cT K ("law", none)).2) {A : Around} {outer : List Env} {s : Shared} {H : Hp} {E : XK} (hr : Room 19 (A.deeper (envOfC d_law.qual d_law.scope s.heap.objs.size (He.fAd K ("law", none)) (.ref (He.cT K ("law", none)).1)))) :
    SSs (gam w K (lamOf (cxOf (L2.CX P w) P w K mg base N_law d_law.qual d_law.scope (He.fAd K ("law", none)) (.ref (He.cT K ("law", none)).1) A outer s H E) LT)) (cxOf (L2.CX P w) P w K mg base N_law d_law.qual d_law.scope (He.fAd K ("law", none)) (.ref (He.cT K ("law", none)).1) A outer s H E) (fun cls d _ H => E cls d H) d_law.body b_law :=
  (sSs_cons (sS_set 1 (sE_kall (ok_l_begun Z) takesF hr (by decide) Z.g__law_begun (sA_cons (sE_var 0) sA_nil)) (S_law).nd) (sSs_cons (sS_for (sI_rng1 Z.f_range (sA_cons (sE_op op_addA ok_add sE_int (sE_callB (call_min2 rfl) ok_min Z.f_min boot_min (sA_cons (sE_callB call_lenA ok_len Z.f_len boot_len (sA_cons (sE_var 0) sA_nil)) (sA_cons sE_int sA_nil)))) sA_nil)) (sG_name 2 (S_law).nd) (sSs_cons (sS_set 3 (sE_kallD (ok_l_pick Z) takesF hr (by decide) Z.g__law_pick (sA_cons (sE_var 1) (sA_cons (sE_lst (sA_cons sE_non (sA_cons (sE_tup sA_nil) (sA_cons (sE_tup (sA_cons sE_str (sA_cons sE_str sA_nil))) (sA_cons (sE_tup (sA_cons sE_str (sA_cons sE_str sA_nil))) (sA_cons (sE_lst (sA_cons sE_str sA_nil)) (sA_cons (sE_tup (sA_cons sE_str sA_nil)) (sA_cons (sE_tup (sA_cons sE_str (sA_cons sE_str (sA_cons sE_str (sA_cons sE_str sA_nil))))) (sA_cons (sE_tup (sA_cons sE_str sA_nil)) (sA_cons sE_str (sA_cons (sE_tup (sA_cons sE_int sA_nil)) sA_nil))))))))))) sA_nil))) (S_law).nd) (sSs_cons (sS_set 4 (sE_kallI (ok_box Z) takesF hr (by decide) Z.g_box (sA_cons (sE_tup (sA_cons sE_str sA_nil)) (sA_cons (sE_disp false (sPc sE_str (sE_tup (sA_cons (sE_tup (sA_cons sE_int (sA_cons sE_int sA_nil))) (sA_cons (sE_tup (sA_cons sE_int (sA_cons sE_int sA_nil))) sA_nil))) sP0)) sA_nil))) (S_law).nd) (sSs_cons (sS_set 5 (sE_kallD (ok_l_pick Z) takesF hr (by decide) Z.g__law_pick (sA_cons (sE_var 1) (sA_cons (sE_lst (sA_cons sE_non (sA_cons (sE_tup sA_nil) (sA_cons (sE_sl rfl (sE_var 4) sP_none (sP_some sE_int)) (sA_cons (sE_revT (sE_var 4)) (sA_cons (sE_callTy call_list_of ok_list Z.f_list boot_list (sA_cons (sE_var 4) sA_nil)) (sA_cons sE_int (sA_cons (sE_tup (sA_cons (sE_var 4) sA_nil)) (sA_cons (sE_op op_addA ok_add (sE_var 4) (sE_tup (sA_cons sE_non sA_nil))) sA_nil))))))))) sA_nil))) (S_law).nd) (sSs_cons (sS_set 6 (sE_kallD (ok_l_pick Z) takesF hr (by decide) Z.g__law_pick (sA_cons (sE_var 1) (sA_cons (sE_lst (sA_cons sE_non (sA_cons (sE_lst sA_nil) (sA_cons (sE_callTy call_list_of ok_list Z.f_list boot_list (sA_cons (sE_var 4) sA_nil)) (sA_cons (sE_tup (sA_cons sE_non sA_nil)) (sA_cons (sE_tup (sA_cons (sE_kallI (ok_l_line Z) takesF hr (by decide) Z.g__law_line (sA_cons (sE_tup (sA_cons sE_str sA_nil)) (sA_cons (sE_lst (sA_cons sE_int (sA_cons sE_int sA_nil))) sA_nil))) sA_nil)) (sA_cons (sE_tup (sA_cons (sE_tup (sA_cons (sE_kallI (ok_l_form Z) takesF hr (by decide) Z.g__law_form (sA_cons (sE_tup (sA_cons sE_str sA_nil)) (sA_cons (sE_lst (sA_cons sE_int (sA_cons sE_int sA_nil))) sA_nil))) (sA_cons sE_str sA_nil))) sA_nil)) (sA_cons (sE_op op_mulA ok_mul (sE_var 4) sE_int) (sA_cons sE_str (sA_cons (sE_tup sA_nil) sA_nil)))))))))) sA_nil))) (S_law).nd) (sSs_cons (sS_set 7 (sE_lst (sA_cons sE_non (sA_cons (sE_d0 false) (sA_cons (sE_disp false (sPc sE_str (sE_tup (sA_cons (sE_tup (sA_cons sE_int (sA_cons sE_int sA_nil))) (sA_cons (sE_tup (sA_cons sE_int (sA_cons sE_int sA_nil))) sA_nil))) sP0)) (sA_cons (sE_disp false (sPc sE_str (sE_tup (sA_cons (sE_tup (sA_cons sE_int (sA_cons sE_int sA_nil))) (sA_cons (sE_tup (sA_cons sE_int (sA_cons sE_int sA_nil))) sA_nil))) sP0)) (sA_cons (sE_disp false (sPc sE_str (sE_tup (sA_cons (sE_tup (sA_cons sE_int (sA_cons sE_int sA_nil))) (sA_cons (sE_tup (sA_cons sE_int (sA_cons sE_int sA_nil))) sA_nil))) sP0)) (sA_cons (sE_disp false (sPc sE_str (sE_tup (sA_cons sE_int (sA_cons sE_int sA_nil))) sP0)) (sA_cons (sE_disp false (sPc sE_str (sE_tup (sA_cons (sE_tup (sA_cons sE_int (sA_cons sE_int sA_nil))) sA_nil)) sP0)) (sA_cons (sE_disp false (sPc sE_str (sE_tup (sA_cons (sE_tup (sA_cons sE_int (sA_cons sE_int sA_nil))) (sA_cons (sE_tup (sA_cons sE_int (sA_cons sE_int sA_nil))) sA_nil))) sP0)) sA_nil))))))))) (S_law).nd) (sSs_cons (sS_set 8 (sE_kallD (ok_l_pick Z) takesF hr (by decide) Z.g__law_pick (sA_cons (sE_var 1) (sA_cons (sE_op op_addA ok_add (sE_var 7) (sE_lst (sA_cons (sE_disp false (sPc sE_str (sE_tup (sA_cons (sE_tup (sA_cons sE_int (sA_cons sE_int sA_nil))) (sA_cons (sE_tup (sA_cons sE_int (sA_cons sE_int sA_nil))) sA_nil))) (sPc sE_str (sE_tup (sA_cons (sE_tup (sA_cons sE_int (sA_cons sE_int sA_nil))) (sA_cons (sE_tup (sA_cons sE_int (sA_cons sE_int sA_nil))) sA_nil))) sP0))) (sA_cons (sE_lst (sA_cons (sE_tup (sA_cons (sE_tup (sA_cons sE_int (sA_cons sE_int sA_nil))) (sA_cons (sE_tup (sA_cons sE_int (sA_cons sE_int sA_nil))) sA_nil))) sA_nil)) sA_nil)))) sA_nil))) (S_law).nd) (sSs_cons (sS_set 9 (sE_lstM (sA_cons (Z.wordV_l_word 16 (by decide) takesF (hr.mono (by decide)) (sE_lam 0 0 0 (LT := LT) rfl (fun _ _ => rfl) rfl tb rfl rfl (LamX.lamS_by (by rfl)) rfl) (lamT Z)) sA_nil)) (S_law).nd) (sSs_cons (sS_expr (sE_met PySem.F.plainAttrs_list PySem.F.slot_list_append PySem.F.type_list_append mt_append ok_append ty_list (sE_var 9) (sA_cons (Z.wordV_l_word 16 (by decide) takesF (hr.mono (by decide)) (sE_lam 0 0 1 (LT := LT) rfl (fun _ _ => rfl) rfl tb rfl rfl (LamX.lamS_by (by rfl)) rfl) (lamT Z)) sA_nil))) (sSs_cons (sS_expr (sE_met PySem.F.plainAttrs_list PySem.F.slot_list_append PySem.F.type_list_append mt_append ok_append ty_list (sE_var 9) (sA_cons (Z.wordV_l_word 16 (by decide) takesF (hr.mono (by decide)) (sE_lam 0 0 2 (LT := LT) rfl (fun _ _ => rfl) rfl tb rfl rfl (LamX.lamS_by (by rfl)) rfl) (lamT Z)) sA_nil))) (sSs_cons (sS_expr (sE_met PySem.F.plainAttrs_list PySem.F.slot_list_append PySem.F.type_list_append mt_append ok_append ty_list (sE_var 9) (sA_cons (Z.wordV_l_word 16 (by decide) takesF (hr.mono (by decide)) (sE_lam 0 0 3 (LT := LT) rfl (fun _ _ => rfl) rfl tb rfl rfl (LamX.lamS_by (by rfl)) rfl) (lamT Z)) sA_nil))) (sSs_cons (sS_expr (sE_met PySem.F.plainAttrs_list PySem.F.slot_list_append PySem.F.type_list_append mt_append ok_append ty_list (sE_var 9) (sA_cons (Z.wordV_l_word 16 (by decide) takesF (hr.mono (by decide)) (sE_lam 0 0 4 (LT := LT) rfl (fun _ _ => rfl) rfl tb rfl rfl (LamX.lamS_by (by rfl)) rfl) (lamT Z)) sA_nil))) (sSs_cons (sS_for (sI_any rfl (sE_lst (sA_cons (sE_fnv 0 Z.g_corners rfl) (sA_cons (sE_fnv 1 Z.g_inner rfl) (sA_cons (sE_fnv 2 Z.g_volume rfl) sA_nil))))) (sG_name 10 (S_law).nd) (sSs_cons (sS_expr (sE_met PySem.F.plainAttrs_list PySem.F.slot_list_append PySem.F.type_list_append mt_append ok_append ty_list (sE_var 9) (sA_cons (Z.wordV_l_word 16 (by decide) takesF (hr.mono (by decide)) (sE_lam 0 0 5 (LT := LT) rfl (fun _ _ => rfl) rfl tb rfl rfl (LamX.lamS_by (by rfl)) rfl) (lamT Z)) sA_nil))) (sSs_cons (sS_expr (sE_met PySem.F.plainAttrs_list PySem.F.slot_list_append PySem.F.type_list_append mt_append ok_append ty_list (sE_var 9) (sA_cons (Z.wordV_l_word 16 (by decide) takesF (hr.mono (by decide)) (sE_lam 0 0 6 (LT := LT) rfl (fun _ _ => rfl) rfl tb rfl rfl (LamX.lamS_by (by rfl)) rfl) (lamT Z)) sA_nil))) (sSs_one (sS_expr (sE_met PySem.F.plainAttrs_list PySem.F.slot_list_append PySem.F.type_list_append mt_append ok_append ty_list (sE_var 9) (sA_cons (Z.wordV_l_word 16 (by decide) takesF (hr.mono (by decide)) (sE_lam 0 0 7 (LT := LT) rfl (fun _ _ => rfl) rfl tb rfl rfl (LamX.lamS_by (by rfl)) rfl) (lamT Z)) sA_nil)))))) passF) (sSs_cons (sS_for (sI_any rfl (sE_lst (sA_cons (sE_fnv 3 Z.g_meet rfl) (sA_cons (sE_fnv 4 Z.g_without rfl) sA_nil)))) (sG_name 10 (S_law).nd) (sSs_cons (sS_expr (sE_met PySem.F.plainAttrs_list PySem.F.slot_list_append PySem.F.type_list_append mt_append ok_append ty_list (sE_var 9) (sA_cons (Z.wordV_l_word 16 (by decide) takesF (hr.mono (by decide)) (sE_lam 0 0 8 (LT := LT) rfl (fun _ _ => rfl) rfl tb rfl rfl (LamX.lamS_by (by rfl)) rfl) (lamT Z)) sA_nil))) (sSs_cons (sS_expr (sE_met PySem.F.plainAttrs_list PySem.F.slot_list_append PySem.F.type_list_append mt_append ok_append ty_list (sE_var 9) (sA_cons (Z.wordV_l_word 16 (by decide) takesF (hr.mono (by decide)) (sE_lam 0 0 9 (LT := LT) rfl (fun _ _ => rfl) rfl tb rfl rfl (LamX.lamS_by (by rfl)) rfl) (lamT Z)) sA_nil))) (sSs_one (sS_expr (sE_met PySem.F.plainAttrs_list PySem.F.slot_list_append PySem.F.type_list_append mt_append ok_append ty_list (sE_var 9) (sA_cons (Z.wordV_l_word 16 (by decide) takesF (hr.mono (by decide)) (sE_lam 0 0 10 (LT := LT) rfl (fun _ _ => rfl) rfl tb rfl rfl (LamX.lamS_by (by rfl)) rfl) (lamT Z)) sA_nil)))))) passF) (sSs_cons (sS_expr (sE_met PySem.F.plainAttrs_list PySem.F.slot_list_append PySem.F.type_list_append mt_append ok_append ty_list (sE_var 9) (sA_cons (Z.wordV_l_word 16 (by decide) takesF (hr.mono (by decide)) (sE_lam 0 0 11 (LT := LT) rfl (fun _ _ => rfl) rfl tb rfl rfl (LamX.lamS_by (by rfl)) rfl) (lamT Z)) sA_nil))) (sSs_cons (sS_expr (sE_met PySem.F.plainAttrs_list PySem.F.slot_list_append PySem.F.type_list_append mt_append ok_append ty_list (sE_var 9) (sA_cons (Z.wordV_l_word 16 (by decide) takesF (hr.mono (by decide)) (sE_lam 0 0 12 (LT := LT) rfl (fun _ _ => rfl) rfl tb rfl rfl (LamX.lamS_by (by rfl)) rfl) (lamT Z)) sA_nil))) (sSs_cons (sS_expr (sE_met PySem.F.plainAttrs_list PySem.F.slot_list_append PySem.F.type_list_append mt_append ok_append ty_list (sE_var 9) (sA_cons (Z.wordV_l_word 16 (by decide) takesF (hr.mono (by decide)) (sE_lam 0 0 13 (LT := LT) rfl (fun _ _ => rfl) rfl tb rfl rfl (LamX.lamS_by (by rfl)) rfl) (lamT Z)) sA_nil))) (sSs_cons (sS_expr (sE_met PySem.F.plainAttrs_list PySem.F.slot_list_append PySem.F.type_list_append mt_append ok_append ty_list (sE_var 9) (sA_cons (Z.wordV_l_word 16 (by decide) takesF (hr.mono (by decide)) (sE_lam 0 0 14 (LT := LT) rfl (fun _ _ => rfl) rfl tb rfl rfl (LamX.lamS_by (by rfl)) rfl) (lamT Z)) sA_nil))) (sSs_cons (sS_expr (sE_met PySem.F.plainAttrs_list PySem.F.slot_list_append PySem.F.type_list_append mt_append ok_append ty_list (sE_var 9) (sA_cons (Z.wordV_l_word 16 (by decide) takesF (hr.mono (by decide)) (sE_lam 0 0 15 (LT := LT) rfl (fun _ _ => rfl) rfl tb rfl rfl (LamX.lamS_by (by rfl)) rfl) (lamT Z)) sA_nil))) (sSs_cons (sS_expr (sE_met PySem.F.plainAttrs_list PySem.F.slot_list_append PySem.F.type_list_append mt_append ok_append ty_list (sE_var 9) (sA_cons (Z.wordV_l_word 16 (by decide) takesF (hr.mono (by decide)) (sE_lam 0 0 16 (LT := LT) rfl (fun _ _ => rfl) rfl tb rfl rfl (LamX.lamS_by (by rfl)) rfl) (lamT Z)) sA_nil))) (sSs_cons (sS_expr (sE_met PySem.F.plainAttrs_list PySem.F.slot_list_append PySem.F.type_list_append mt_append ok_append ty_list (sE_var 9) (sA_cons (Z.wordV_l_word 16 (by decide) takesF (hr.mono (by decide)) (sE_lam 0 0 17 (LT := LT) rfl (fun _ _ => rfl) rfl tb rfl rfl (LamX.lamS_by (by rfl)) rfl) (lamT Z)) sA_nil))) (sSs_cons (sS_expr (sE_met PySem.F.plainAttrs_list PySem.F.slot_list_append PySem.F.type_list_append mt_append ok_append ty_list (sE_var 9) (sA_cons (Z.wordV_l_word 16 (by decide) takesF (hr.mono (by decide)) (sE_lam 0 0 18 (LT := LT) rfl (fun _ _ => rfl) rfl tb rfl rfl (LamX.lamS_by (by rfl)) rfl) (lamT Z)) sA_nil))) (sSs_cons (sS_if (sT_w (sW_or (sT_cmp (op_neA hr.units) ok_ne (sE_var 9) (sE_op op_mulA ok_mul (sE_lst (sA_cons sE_str sA_nil)) (sE_callB call_lenA ok_len Z.f_len boot_len (sA_cons (sE_var 9) sA_nil)))) (sW_or1 (sT_cmp (op_neA hr.units) ok_ne (sE_var 4) (sE_kallI (ok_box Z) takesF hr (by decide) Z.g_box (sA_cons (sE_tup (sA_cons sE_str sA_nil)) (sA_cons (sE_disp false (sPc sE_str (sE_tup (sA_cons (sE_tup (sA_cons sE_int (sA_cons sE_int sA_nil))) (sA_cons (sE_tup (sA_cons sE_int (sA_cons sE_int sA_nil))) sA_nil))) sP0)) sA_nil))))))) (sSs_one (sS_ret sE_bl)) sSs_nil) (sSs_one (sS_if (sT_w (sW_or (sT_cmp op_notBl ok_notBl (sE_kallI (ok_fills Z) takesF hr (by decide) Z.g_fills (sA_cons (sE_tup (sA_cons sE_str sA_nil)) (sA_cons (sE_var 4) (sA_cons (sE_tup (sA_cons (sE_var 4) sA_nil)) sA_nil)))) sE_bl) (sW_or (sT_cmp op_notBl ok_notBl (sE_kallI (ok_are_apart Z) takesF hr (by decide) Z.g_are_apart (sA_cons (sE_tup (sA_cons sE_str sA_nil)) (sA_cons (sE_tup sA_nil) sA_nil))) sE_bl) (sW_or1 (sT_cmp (op_neA hr.units) ok_ne (sE_kallI (ok_cell_of Z) takesF hr (by decide) Z.g_cell_of (sA_cons (sE_tup (sA_cons sE_str sA_nil)) (sA_cons (sE_op op_addA ok_add (sE_var 4) (sE_var 4)) sA_nil))) (sE_var 4)))))) (sSs_one (sS_ret sE_bl)) sSs_nil)))))))))))))))))))))))) passF) (sSs_one (sS_ret sE_bl))))
theorem ok_law (Z : Fx K mg base) (tb : LamX.TabB base mg (He.cT K ("law", none)).1 (He.cT K ("law", none)).2) : ∃ fd, FnOk P w K mg base (L2.CX P w) 20 (He.fAd K ("law", none)) fd ["script"] (fun vs H Q E => ∀ Λ, spOf (gam w K Λ) 1 m_law vs H Q E) ∧ FunD K d_law.name d_law.qual d_law.params d_law.body d_law.scope [] [] (He.fAd K ("law", none)) fd := by
  obtain ⟨fd, F⟩ := Z.c.def_ 63 (d := d_law) rfl
  exact ⟨fd, fn_okL (g := gam w K) (LT := LT) F S_law rfl fun A outer s H E hr => bd_law Z tb hr, F⟩
end
end G08
namespace G08
open PySem PySem.Spec PyProof.Rows L2 WR
abbrev R : PySem.W.OpenRow := PySem.W.OpenLaw.row PySem.Challenge.rw_wishregions_k08_refusals_of_cells
abbrev hk : PySem.W.Hook := hookY 5 fa fn [("law", none)] ex
def ob (s : PySem.W.SharedT) : He.AlX := obY 5 fa fn [("law", none)] ex (HandSHeadRun.getT s)
theorem ob_eq (s : PySem.W.SharedT) : ob s = hk.obs s.abs := obY_eq (HandSHeadRun.getT_eq s)
theorem run (w : World) : HandSHeadRun.RunEq R (PySem.W.view R.prog [83]) hk ob 20000 loose w := by
  intro os
  kernel_rfl
end G08
namespace WR
open PySem L2
/-! ### plain lemmas about mirrors -/
theorem lcL_map {src : Src} {xs : List T} (hs : ∀ st i, srcAt src st i = some xs[i]?) {g : AG} {c : M Bool} {elt : ME} {σ : Ev} {f : T → T} {st : List O} (h : ∀ t ∈ xs, ∃ σ1, g t σ = some σ1 ∧ c σ1 st = .ok true st ∧ elt σ1 st = .ok (f t) st) : ∀ (m i : Nat) (acc : List T), xs.length < i + m → i ≤ xs.length → acc.length ≤ i → xs.length < 16777216 →
    lcL src g c elt σ m i acc st = .ok (acc ++ (xs.drop i).map f) st
  | 0, i, _, h1, h2, _, _ => by omega
  | m + 1, i, acc, h1, h2, h3, h4 => by
    unfold lcL
    rw [hs]
    cases q : xs[i]? with
    | none =>
      have : xs.length ≤ i := List.getElem?_eq_none_iff.mp q
      simp [List.drop_eq_nil_of_le this]
    | some t =>
      have hi : i < xs.length := (List.getElem?_eq_some_iff.mp q).1
      have ht : t ∈ xs := List.mem_of_getElem? q
      obtain ⟨σ1, e1, e2, e3⟩ := h t ht
      have e4 : decide (acc.length < 16777216) = true := decide_eq_true (by omega)
      simp only [e1, e2, e3, e4]
      have hd : xs.drop i = t :: xs.drop (i + 1) := by
        rw [List.drop_eq_getElem_cons hi]
        have := (List.getElem?_eq_some_iff.mp q).2
        rw [this]
      rw [lcL_map hs h m (i + 1) (acc ++ [f t]) (by omega) (by omega) (by simp; omega) h4, hd]
      simp
/-- a comprehension over what is known, no test -/
theorem mLc_map {it : M Src} {src : Src} {vs : List Nat} {g : AG} {elt : ME} {σ : Ev} {st : List O} {xs : List T} {f : T → T} (hi : it σ st = .ok src st) (hs : ∀ st i, srcAt src st i = some xs[i]?) (hl : xs.length < 1000000) (h : ∀ t ∈ xs, ∃ σ1, g t (wipeE σ vs) = some σ1 ∧ elt σ1 st = .ok (f t) st) :
    mLc it vs g mYes elt σ st = .ok (.lst (xs.map f)) st := by
  unfold mLc
  rw [hi]
  simp only [Rs.bind]
  rw [lcL_map hs (fun t ht => by obtain ⟨σ1, a, b⟩ := h t ht; exact ⟨σ1, a, rfl, b⟩) fuel 0 [] (by show xs.length < 0 + 1000000; omega) (Nat.zero_le _) (Nat.le_refl _) (by omega)]
  simp
theorem srcAt_tup {xs : List T} : ∀ (st : List O) (i : Nat), srcAt (.tup xs) st i = some xs[i]? := fun _ _ => rfl
theorem srcAt_lst {xs : List T} : ∀ (st : List O) (i : Nat), srcAt (.lst xs) st i = some xs[i]? := fun _ _ => rfl
/-- all of a list of bools -/
theorem blsT_map {xs : List T} {f : T → Bool} : blsT (xs.map fun t => .bl (f t)) = some (xs.map f) := by
  induction xs with
  | nil => rfl
  | cons x r ih => simp only [List.map_cons, blsT, ih]
/-! ### what holds no own objects is handed over as it is -/
mutual
theorem inl_nrf {st : List O} : ∀ (n : Nat) (t : T), nrf n t = true → inl st n t = some t
  | 0, _, h => by simp [nrf] at h
  | n + 1, t, h => by
    cases t with
    | tup xs => simp only [nrf] at h; simp only [inl, inls_nrf n xs h]
    | lst xs => simp only [nrf] at h; simp only [inl, inls_nrf n xs h]
    | dct ks xs => simp only [nrf] at h; simp only [inl, inls_nrf n xs h]
    | ins c fs xs => simp only [nrf] at h; simp only [inl, inls_nrf n xs h]
    | exc c fs xs => simp only [nrf] at h; simp only [inl, inls_nrf n xs h]
    | ref i => simp [nrf] at h
    | _ => rfl
theorem inls_nrf {st : List O} : ∀ (n : Nat) (ts : List T), nrfs n ts = true → inls st n ts = some ts
  | 0, _, h => by simp [nrfs] at h
  | n + 1, ts, h => by
    cases ts with
    | nil => rfl
    | cons t ts =>
      simp only [nrfs] at h
      cases q : nrf n t with
      | false => rw [q] at h; cases h
      | true => rw [q] at h; simp only [inls, inl_nrf n t q, inls_nrf n ts h]
end
mutual
theorem inlN_nrf {k : Nat} {st : List O} : ∀ (n : Nat) (t : T), nrf n t = true → inlN k st n t = some t
  | 0, _, h => by simp [nrf] at h
  | n + 1, t, h => by
    cases t with
    | tup xs => simp only [nrf] at h; simp only [inlN, inlNs_nrf n xs h]
    | lst xs => simp only [nrf] at h; simp only [inlN, inlNs_nrf n xs h]
    | dct ks xs => simp only [nrf] at h; simp only [inlN, inlNs_nrf n xs h]
    | ins c fs xs => simp only [nrf] at h; simp only [inlN, inlNs_nrf n xs h]
    | exc c fs xs => simp only [nrf] at h; simp only [inlN, inlNs_nrf n xs h]
    | ref i => simp [nrf] at h
    | _ => rfl
theorem inlNs_nrf {k : Nat} {st : List O} : ∀ (n : Nat) (ts : List T), nrfs n ts = true → inlNs k st n ts = some ts
  | 0, _, h => by simp [nrfs] at h
  | n + 1, ts, h => by
    cases ts with
    | nil => rfl
    | cons t ts =>
      simp only [nrfs] at h
      cases q : nrf n t with
      | false => rw [q] at h; cases h
      | true => rw [q] at h; simp only [inlNs, inlN_nrf n t q, inlNs_nrf n ts h]
end
theorem noRefs_of {st : List O} {ts : List T} (h : nrfs 200 ts = true) : noRefs st ts = true := by
  unfold noRefs
  cases st with
  | nil => rfl
  | cons o os => exact h
/-- a call on nothing but its arguments -/
theorem iso_ok {m : MF} {ts : List T} {st : List O} {r : T} (h : nrfs 200 ts = true) (e : m ts [] = .ok r []) : iso m ts st = .ok r st := by
  unfold iso
  rw [noRefs_of h, e]
  rfl
theorem iso_exc {m : MF} {ts : List T} {st : List O} {e : Ex} (h : nrfs 200 ts = true) (q : m ts [] = .exc e []) : iso m ts st = .exc e st := by
  unfold iso
  rw [noRefs_of h, q]
  rfl
theorem iso_okR {m : MF} {ts : List T} {st stc : List O} {r r' : T} (h : nrfs 200 ts = true) (e : m ts [] = .ok r stc) (q : isoOk r stc = some r') : iso m ts st = .ok r' st := by
  unfold iso
  rw [noRefs_of h, e]
  show isoEnd false (.ok r stc) st = _
  unfold isoEnd
  simp only [q]
end WR
namespace G08
open PySem L2 WR
/-! ### loops -/
theorem forL_inv {src : Src} {xs : List T} (hs : ∀ st i, srcAt src st i = some xs[i]?) {g : AG} {body : MS} (I : Nat → Ev → List O → Prop)
    (step : ∀ i t σ st, xs[i]? = some t → I i σ st → ∃ σ1 σ2 st2, g t σ = some σ1 ∧ body σ1 st = .ok (.nx σ2) st2 ∧ I (i + 1) σ2 st2) : ∀ (m i : Nat) (σ : Ev) (st : List O), xs.length < i + m → i ≤ xs.length → I i σ st →
    ∃ σ' st', forL src g body m i σ st = .ok (.nx σ') st' ∧ I xs.length σ' st'
  | 0, i, _, _, h1, h2, _ => by omega
  | m + 1, i, σ, st, h1, h2, h3 => by
    unfold forL
    rw [hs]
    cases q : xs[i]? with
    | none =>
      have : xs.length ≤ i := List.getElem?_eq_none_iff.mp q
      have e : i = xs.length := by omega
      subst e
      exact ⟨σ, st, rfl, h3⟩
    | some t =>
      have hi : i < xs.length := (List.getElem?_eq_some_iff.mp q).1
      obtain ⟨σ1, σ2, st2, e1, e2, h4⟩ := step i t σ st q h3
      simp only [e1, e2]
      exact forL_inv hs I step m (i + 1) σ2 st2 (by omega) (by omega) h4
theorem mFor_inv {it : M Src} {src : Src} {xs : List T} (hs : ∀ st i, srcAt src st i = some xs[i]?) {g : AG} {body : MS} (I : Nat → Ev → List O → Prop) {σ : Ev} {st : List O} (hi : it σ st = .ok src st) (hl : xs.length < 1000000) (h0 : I 0 σ st)
    (step : ∀ i t σ st, xs[i]? = some t → I i σ st → ∃ σ1 σ2 st2, g t σ = some σ1 ∧ body σ1 st = .ok (.nx σ2) st2 ∧ I (i + 1) σ2 st2) :
    ∃ σ' st', mFor it g body σ st = .ok (.nx σ') st' ∧ I xs.length σ' st' := by
  unfold mFor
  rw [hi]
  exact forL_inv hs I step fuel 0 σ st (by show xs.length < 0 + 1000000; omega) (Nat.zero_le _) h0
/-! ### the state -/
structure SP where
  great : List Int
  cells : List Int
  rest : Int
  turn : Int
abbrev izs (xs : List Int) : List T := xs.map T.int
def B (s : SP) (X : List O) : List O := .tbl 0 :: .lst (izs s.great) :: .dct [.inr "great", .inr "cells", .inr "rest", .inr "turn"] [.ref 1, .lst (izs s.cells), .int s.rest, .int s.turn] :: X
structure Ok (n : Nat) (s : SP) : Prop where
  gl : s.great.length ≤ 63
  cl : s.cells.length ≤ 63
  gp : ∀ z ∈ s.great, 0 ≤ z
  cp : ∀ z ∈ s.cells, 0 ≤ z
  rp : 0 ≤ s.rest
  tp : 0 ≤ s.turn
  tn : s.turn + n ≤ 1000000000
theorem Ok.mono {n m : Nat} {s : SP} (h : Ok n s) (k : m ≤ n) : Ok m s := ⟨h.gl, h.cl, h.gp, h.cp, h.rp, h.tp, by have := h.tn; omega⟩
theorem get_rest (s : SP) (X : List O) : dgetT (.ref 2) (.str "rest") (B s X) = .ok (.int s.rest) (B s X) := rfl
theorem get_turn (s : SP) (X : List O) : dgetT (.ref 2) (.str "turn") (B s X) = .ok (.int s.turn) (B s X) := rfl
theorem get_great (s : SP) (X : List O) : dgetT (.ref 2) (.str "great") (B s X) = .ok (.ref 1) (B s X) := rfl
theorem get_cells (s : SP) (X : List O) : dgetT (.ref 2) (.str "cells") (B s X) = .ok (.lst (izs s.cells)) (B s X) := rfl
theorem put_rest (s : SP) (X : List O) (i : Int) : dputT (.ref 2) (.str "rest") (.int i) (B s X) = some (B { s with rest := i } X) := rfl
theorem put_turn (s : SP) (X : List O) (i : Int) : dputT (.ref 2) (.str "turn") (.int i) (B s X) = some (B { s with turn := i } X) := rfl
/-! ### arithmetic -/
theorem log2_lt {n k : Nat} (h : n < 2 ^ k) (hk : 0 < k) : n.log2 < k := by
  by_cases q : n = 0
  · subst q; simpa using hk
  · exact (Nat.log2_lt q).mpr h
theorem mulT_int {i j : Int} {st : List O} (hi : i.natAbs < 2 ^ 250) (hj : j.natAbs < 2 ^ 250) : mulT (.int i) (.int j) st = .ok (.int (i * j)) st := by
  have a := log2_lt hi (by decide)
  have b := log2_lt hj (by decide)
  have e : decide (i.natAbs.log2 + j.natAbs.log2 < 1000000) = true := decide_eq_true (by omega)
  simp only [mulT, e]
theorem modT_int {i j : Int} {st : List O} (hj : 0 < j) : modT (.int i) (.int j) st = .ok (.int (i % j)) st := by
  simp only [modT, decide_eq_true hj]
theorem fdivT_int {i j : Int} {st : List O} (hj : 0 < j) (h : j.natAbs < 2 ^ 250) : fdivT (.int i) (.int j) st = .ok (.int (i / j)) st := by
  have a := log2_lt h (by decide)
  have e : (decide (0 < j) && decide (j.natAbs.log2 < 9000)) = true := by rw [Bool.and_eq_true]; exact ⟨decide_eq_true hj, decide_eq_true (by omega)⟩
  simp only [fdivT, e]
theorem powT_int {i : Int} {st : List O} (h : i.natAbs < 2 ^ 64) : powT (.int i) (.int 5) st = .ok (.int (i ^ 5)) st := by
  have e : (decide ((0 : Int) ≤ 5) && decide ((5 : Int) ≤ 1000000) && decide (i.natAbs < 2 ^ 64)) = true := by
    rw [Bool.and_eq_true]; exact ⟨by decide, decide_eq_true h⟩
  simp only [powT, e]
  rfl
/-! ### mixed -/
theorem inner_ok {r : T} {t f p b c : Int} {st : List O} (hp : 0 < p) (hp2 : p < 2 ^ 31) (hb : 0 ≤ b) (hb2 : b < 2 ^ 64) :
    mSet 4 (mOp modT (mCB intX (mCons (mOp addT (mOp addT (mOp mulT (mVar 4) (mC (.int 48271))) (mVar 5)) (mVar 1)) mNil)) (mVar 3)) [some r, some (.int t), some (.int f), some (.int p), some (.int b), some (.int c)] st
      = .ok (.nx [some r, some (.int t), some (.int f), some (.int p), some (.int ((b * 48271 + c + t) % p)), some (.int c)]) st := by
  have e := mulT_int (i := b) (j := 48271) (st := st) (by omega) (by decide)
  simp only [mSet, mOp, mCB, mCons, mNil, mVar, mC, List.getElem?_cons_succ, List.getElem?_cons_zero, Rs.bind, e, addT, intX, oneInt, modT_int hp, Rs.bindS]
  rfl
theorem cellsL_ok {t f p b : Int} {o : Option T} {s : SP} {X : List O} (hp : 0 < p) (hp2 : p < 2 ^ 31) (hb : 0 ≤ b) (hb2 : b < 2 ^ 64) (hl : s.cells.length ≤ 63) :
    ∃ b' c', mFor (mIA (mOp dgetT (mVar 0) (mC (.str "cells")))) (agN 5) (mSet 4 (mOp modT (mCB intX (mCons (mOp addT (mOp addT (mOp mulT (mVar 4) (mC (.int 48271))) (mVar 5)) (mVar 1)) mNil)) (mVar 3))) [some (.ref 2), some (.int t), some (.int f), some (.int p), some (.int b), o] (B s X)
      = .ok (.nx [some (.ref 2), some (.int t), some (.int f), some (.int p), some (.int b'), c']) (B s X) ∧ 0 ≤ b' ∧ b' < 2 ^ 64 := by
  obtain ⟨σ', st', e, h⟩ := mFor_inv (src := .lst (izs s.cells)) (xs := izs s.cells) srcAt_lst (g := agN 5) (body := mSet 4 (mOp modT (mCB intX (mCons (mOp addT (mOp addT (mOp mulT (mVar 4) (mC (.int 48271))) (mVar 5)) (mVar 1)) mNil)) (mVar 3)))
    (it := mIA (mOp dgetT (mVar 0) (mC (.str "cells")))) (σ := [some (.ref 2), some (.int t), some (.int f), some (.int p), some (.int b), o]) (st := B s X)
    (fun _ σ st => st = B s X ∧ ∃ b' c', σ = [some (.ref 2), some (.int t), some (.int f), some (.int p), some (.int b'), c'] ∧ 0 ≤ b' ∧ b' < 2 ^ 64)
    rfl (by simp; omega) ⟨rfl, b, o, rfl, hb, hb2⟩ (by
      rintro i x σ st hx ⟨rfl, b', c', rfl, h1, h2⟩
      have : x ∈ izs s.cells := List.mem_of_getElem? hx
      obtain ⟨c, _, rfl⟩ := List.mem_map.mp this
      refine ⟨_, _, _, rfl, inner_ok hp hp2 h1 h2, rfl, _, _, rfl, Int.emod_nonneg _ (by omega), ?_⟩
      have := Int.emod_lt_of_pos (b' * 48271 + c + t) hp
      omega)
  obtain ⟨rfl, b', c', rfl, h1, h2⟩ := h
  exact ⟨b', c', e, h1, h2⟩
end G08
namespace G08
open PySem L2 WR
theorem seq_nx {a b : MS} {σ σ1 : Ev} {st st1 : List O} (h : a σ st = .ok (.nx σ1) st1) : mSeq a b σ st = b σ1 st1 := by
  show RsS.seq (a σ st) b = _
  rw [h]
  rfl
theorem seq_rt {a b : MS} {σ : Ev} {t : T} {st st1 : List O} (h : a σ st = .ok (.rt t) st1) : mSeq a b σ st = .ok (.rt t) st1 := by
  show RsS.seq (a σ st) b = _
  rw [h]
  rfl
theorem seq_exc {a b : MS} {σ σ1 : Ev} {e : Ex} {st st1 : List O} (h : a σ st = .exc e σ1 st1) : mSeq a b σ st = .exc e σ1 st1 := by
  show RsS.seq (a σ st) b = _
  rw [h]
  rfl
theorem def_rt {N : Nat} {b : MS} {ts : List T} {t : T} {st st1 : List O} (h : b (ts.map some ++ List.replicate (N - ts.length) none) st = .ok (.rt t) st1) : mDef N b ts st = .ok t st1 := by
  unfold mDef
  rw [h]
theorem def_nx {N : Nat} {b : MS} {ts : List T} {σ1 : Ev} {st st1 : List O} (h : b (ts.map some ++ List.replicate (N - ts.length) none) st = .ok (.nx σ1) st1) : mDef N b ts st = .ok .non st1 := by
  unfold mDef
  rw [h]
theorem def_exc {N : Nat} {b : MS} {ts : List T} {σ1 : Ev} {e : Ex} {st st1 : List O} (h : b (ts.map some ++ List.replicate (N - ts.length) none) st = .exc e σ1 st1) : mDef N b ts st = .exc e st1 := by
  unfold mDef
  rw [h]
theorem if_t {c : M Bool} {a b : MS} {σ : Ev} {st st1 : List O} (h : c σ st = .ok true st1) : mIfS c a b σ st = a σ st1 := by
  unfold mIfS
  rw [h]
  rfl
theorem if_f {c : M Bool} {a b : MS} {σ : Ev} {st st1 : List O} (h : c σ st = .ok false st1) : mIfS c a b σ st = b σ st1 := by
  unfold mIfS
  rw [h]
  rfl
theorem mixed_ok {n : Nat} {s : SP} {X : List O} (h : Ok (n + 1) s) : ∃ z : Int, m_l_mixed [.ref 2] (B s X) = .ok (.int z) (B { s with turn := s.turn + 1 } X) ∧ 0 ≤ z := by
  have hcl := h.cl
  have htp := h.tp
  have htn := h.tn
  obtain ⟨σ', st', e, hI⟩ := mFor_inv (src := .lst [.int 2147483629, .int 2147483587, .int 2147483579, .int 2147483563]) (xs := [.int 2147483629, .int 2147483587, .int 2147483579, .int 2147483563]) srcAt_lst (g := agN 3)
    (it := (mIA (mLst (mCons (mC (.int 2147483629)) (mCons (mC (.int 2147483587)) (mCons (mC (.int 2147483579)) (mCons (mC (.int 2147483563)) mNil)))))))
    (body := (mSeq (mSet 4 (mOp addT (mOp mulT (mC (.int 69621)) (mVar 1)) (mOp fdivT (mVar 3) (mC (.int 41))))) (mSeq (mFor (mIA (mOp dgetT (mVar 0) (mC (.str "cells")))) (agN 5) (mSet 4 (mOp modT (mCB intX (mCons (mOp addT (mOp addT (mOp mulT (mVar 4) (mC (.int 48271))) (mVar 5)) (mVar 1)) mNil)) (mVar 3)))) (mSet 2 (mOp addT (mOp mulT (mVar 2) (mC (.int 2147483659))) (mOp modT (mCB intX (mCons (mOp powT (mVar 4) (mC (.int 5))) mNil)) (mVar 3)))))))
    (σ := [some (.ref 2), some (.int (s.turn + 1)), some (.int 0), none, none, none]) (st := B { s with turn := s.turn + 1 } X)
    (fun i σ st => st = B { s with turn := s.turn + 1 } X ∧ ∃ f p b c, σ = [some (.ref 2), some (.int (s.turn + 1)), some (.int f), p, b, c] ∧ 0 ≤ f ∧ f < 2 ^ (40 * i))
    rfl (by decide) ⟨rfl, 0, none, none, none, rfl, by omega, by decide⟩ (by
      rintro i x σ st hx ⟨rfl, f, o1, o2, o3, rfl, hf, hf2⟩
      have hp : ∃ p : Int, x = .int p ∧ 0 < p ∧ p < 2 ^ 31 ∧ i < 4 := by
        match i, hx with
        | 0, hx => cases hx; exact ⟨_, rfl, by decide, by decide, by decide⟩
        | 1, hx => cases hx; exact ⟨_, rfl, by decide, by decide, by decide⟩
        | 2, hx => cases hx; exact ⟨_, rfl, by decide, by decide, by decide⟩
        | 3, hx => cases hx; exact ⟨_, rfl, by decide, by decide, by decide⟩
      obtain ⟨p, rfl, hp, hp2, hi⟩ := hp
      have hq : p / 41 < 2 ^ 31 := by omega
      have hq0 : 0 ≤ p / 41 := by omega
      obtain ⟨b', c', eb, hb, hb2⟩ := cellsL_ok (t := s.turn + 1) (f := f) (p := p) (b := 69621 * (s.turn + 1) + p / 41) (o := o3) (s := { s with turn := s.turn + 1 }) (X := X) hp hp2 (by omega) (by omega) hcl
      have hm := Int.emod_nonneg (b' ^ 5) (b := p) (by omega)
      have hm2 := Int.emod_lt_of_pos (b' ^ 5) hp
      have hP : (2 : Int) ^ (40 * (i + 1)) = 2 ^ (40 * i) * 1099511627776 := by
        have k : (2 : Int) ^ 40 = 1099511627776 := by decide
        rw [show 40 * (i + 1) = 40 * i + 40 by omega, Int.pow_add, k]
      have hfb : f.natAbs < 2 ^ 250 := by
        have : (2 : Nat) ^ (40 * i) ≤ 2 ^ 250 := Nat.pow_le_pow_right (by decide) (by omega)
        have : (2 : Int) ^ (40 * i) ≤ 2 ^ 250 := by exact_mod_cast this
        omega
      have e1 : mulT (.int 69621) (.int (s.turn + 1)) (B { s with turn := s.turn + 1 } X) = .ok (.int (69621 * (s.turn + 1))) (B { s with turn := s.turn + 1 } X) := mulT_int (by decide) (by omega)
      have e2 : fdivT (.int p) (.int 41) (B { s with turn := s.turn + 1 } X) = .ok (.int (p / 41)) (B { s with turn := s.turn + 1 } X) := fdivT_int (by decide) (by decide)
      have e3 : mulT (.int f) (.int 2147483659) (B { s with turn := s.turn + 1 } X) = .ok (.int (f * 2147483659)) (B { s with turn := s.turn + 1 } X) := mulT_int hfb (by decide)
      have e4 : powT (.int b') (.int 5) (B { s with turn := s.turn + 1 } X) = .ok (.int (b' ^ 5)) (B { s with turn := s.turn + 1 } X) := powT_int (by omega)
      have e5 : modT (.int (b' ^ 5)) (.int p) (B { s with turn := s.turn + 1 } X) = .ok (.int (b' ^ 5 % p)) (B { s with turn := s.turn + 1 } X) := modT_int hp
      refine ⟨_, [some (.ref 2), some (.int (s.turn + 1)), some (.int (f * 2147483659 + b' ^ 5 % p)), some (.int p), some (.int b'), c'], _, rfl, ?_, rfl, _, _, _, _, rfl, by omega, by omega⟩
      have d1 : mSet 4 (mOp addT (mOp mulT (mC (.int 69621)) (mVar 1)) (mOp fdivT (mVar 3) (mC (.int 41)))) [some (.ref 2), some (.int (s.turn + 1)), some (.int f), some (.int p), o2, o3] (B { s with turn := s.turn + 1 } X) = .ok (.nx [some (.ref 2), some (.int (s.turn + 1)), some (.int f), some (.int p), some (.int (69621 * (s.turn + 1) + p / 41)), o3]) (B { s with turn := s.turn + 1 } X) := by
        simp only [mSet, mOp, mVar, mC, List.getElem?_cons_succ, List.getElem?_cons_zero, Rs.bind, e1, e2, addT, Rs.bindS]
        rfl
      have d1' := seq_nx (b := mSeq (mFor (mIA (mOp dgetT (mVar 0) (mC (.str "cells")))) (agN 5) (mSet 4 (mOp modT (mCB intX (mCons (mOp addT (mOp addT (mOp mulT (mVar 4) (mC (.int 48271))) (mVar 5)) (mVar 1)) mNil)) (mVar 3)))) (mSet 2 (mOp addT (mOp mulT (mVar 2) (mC (.int 2147483659))) (mOp modT (mCB intX (mCons (mOp powT (mVar 4) (mC (.int 5))) mNil)) (mVar 3))))) d1
      simp only [List.set_cons_succ, List.set_cons_zero]
      rw [d1', seq_nx eb]
      simp only [mSet, mOp, mVar, mC, mCB, mCons, mNil, List.getElem?_cons_succ, List.getElem?_cons_zero, Rs.bind, e3, e4, e5, intX, oneInt, addT, Rs.bindS]
      rfl)
  obtain ⟨rfl, f, p, b, c, rfl, hf, _⟩ := hI
  refine ⟨f, ?_, hf⟩
  unfold m_l_mixed
  apply def_rt
  unfold b_l_mixed
  rw [seq_nx (σ1 := [some (.ref 2), some (.int (s.turn + 1)), some (.int 0), none, none, none]) (st1 := B s X) rfl, seq_nx (σ1 := [some (.ref 2), some (.int (s.turn + 1)), some (.int 0), none, none, none]) (st1 := B { s with turn := s.turn + 1 } X) rfl, seq_nx e]
  rfl
theorem nrfs_ints : ∀ (xs : List Int) (n : Nat), xs.length + 1 < n → nrfs n (izs xs) = true
  | [], n + 1, _ => rfl
  | x :: xs, n + 2, h => by
    have := nrfs_ints xs (n + 1) (by simp at h; omega)
    simp only [izs, List.map_cons, nrfs, nrf] at this ⊢
    exact this
def Clo (X : List O) : Prop := ∀ k st, X.length + 3 ≤ k → inlOs k st 200 X = some X
theorem iref {k i n : Nat} {st : List O} (h : i < k) : inlN k st (n + 1) (.ref i) = some (.ref i) := by
  have : Nat.blt i k = true := by rw [Nat.blt_eq]; exact h
  unfold inlN
  simp only [this]
theorem icons {k n : Nat} {st : List O} {t : T} {r : List T} (h : inlN k st n t = some t) (h2 : inlNs k st n r = some r) : inlNs k st (n + 1) (t :: r) = some (t :: r) := by
  unfold inlNs
  simp only [h, h2]
theorem ilst {k n : Nat} {st : List O} {xs : List T} (h : inlNs k st n xs = some xs) : inlN k st (n + 1) (.lst xs) = some (.lst xs) := by
  unfold inlN
  simp only [h]
theorem inlOs_cons {k n : Nat} {st : List O} {o : O} {os : List O} (h : inlO k st n o = some o) (h2 : inlOs k st n os = some os) : inlOs k st n (o :: os) = some (o :: os) := by
  unfold inlOs
  simp only [h, h2]
theorem iolst {k n : Nat} {st : List O} {xs : List T} (h : inlNs k st n xs = some xs) : inlO k st n (.lst xs) = some (.lst xs) := by
  unfold inlO
  simp only [h]
theorem iodct {k n : Nat} {st : List O} {ks : List Key} {xs : List T} (h : inlNs k st n xs = some xs) : inlO k st n (.dct ks xs) = some (.dct ks xs) := by
  unfold inlO
  simp only [h]
theorem inlOs_B {s : SP} {X : List O} (st : List O) (h1 : s.great.length ≤ 63) (h2 : s.cells.length ≤ 63) (hX : Clo X) : inlOs (X.length + 3) st 200 (B s X) = some (B s X) := by
  have a := inlNs_nrf (k := X.length + 3) (st := st) 200 (izs s.great) (nrfs_ints _ 200 (by omega))
  have b := inlNs_nrf (k := X.length + 3) (st := st) 197 (izs s.cells) (nrfs_ints _ 197 (by omega))
  exact inlOs_cons rfl (inlOs_cons (iolst a) (inlOs_cons (iodct (icons (iref (by omega)) (icons (ilst b) (icons rfl (icons rfl rfl))))) (hX _ st (Nat.le_refl _))))
theorem drop_ok {m : MF} {ts : List T} {s s' : SP} {X Y : List O} {t : T} (e : m ts (B s X) = .ok t (B s' X ++ Y)) (ht : nrf 200 t = true) (h1 : s'.great.length ≤ 63) (h2 : s'.cells.length ≤ 63) (hX : Clo X) : drop m ts (B s X) = .ok t (B s' X) := by
  have l : (B s X).length = X.length + 3 := rfl
  have l' : (B s' X).length = X.length + 3 := rfl
  have tk : (B s' X ++ Y).take (X.length + 3) = B s' X := by
    rw [← l']; simp
  show dropEnd (B s X).length (m ts (B s X)) = _
  rw [e, l]
  unfold dropEnd
  simp only [inlN_nrf 200 t ht, tk, inlOs_B _ h1 h2 hX]
theorem drop_ok' {m : MF} {ts : List T} {s s' : SP} {X : List O} {t : T} (e : m ts (B s X) = .ok t (B s' X)) (ht : nrf 200 t = true) (h1 : s'.great.length ≤ 63) (h2 : s'.cells.length ≤ 63) (hX : Clo X) : drop m ts (B s X) = .ok t (B s' X) := drop_ok (Y := []) (by rw [e, List.append_nil]) ht h1 h2 hX
theorem Clo.nil : Clo [] := fun _ _ _ => rfl
theorem inlOs_app {k n : Nat} {st : List O} : ∀ {X Y : List O}, inlOs k st n X = some X → inlOs k st n Y = some Y → inlOs k st n (X ++ Y) = some (X ++ Y)
  | [], _, _, h => h
  | o :: os, Y, h1, h2 => by
    unfold inlOs at h1
    cases q : inlO k st n o with
    | none => rw [q] at h1; cases h1
    | some p => cases q2 : inlOs k st n os with
      | none => rw [q, q2] at h1; cases h1
      | some ps =>
        rw [q, q2] at h1
        have e := List.cons.inj (Option.some.inj h1)
        rw [e.1] at q
        rw [e.2] at q2
        exact inlOs_cons q (inlOs_app q2 h2)
theorem Clo.app {X Y : List O} (h1 : Clo X) (h2 : Clo Y) : Clo (X ++ Y) := fun k st h => inlOs_app (h1 k st (by simp at h; omega)) (h2 k st (by simp at h; omega))
theorem Clo.lst {xs : List T} (h : nrfs 200 xs = true) : Clo [.lst xs] := fun k st _ => inlOs_cons (iolst (inlNs_nrf 200 xs h)) rfl
theorem Clo.dct {ks : List Key} {xs : List T} (h : nrfs 200 xs = true) : Clo [.dct ks xs] := fun k st _ => inlOs_cons (iodct (inlNs_nrf 200 xs h)) rfl
/-! ### draw -/
theorem pds_izs (st : List O) : ∀ (xs : List Int) (n : Nat), xs.length + 1 < n → pds st n (izs xs) = some (xs.map PyData.int)
  | [], n + 1, _ => by simp only [izs, List.map_nil, pds]
  | x :: xs, n + 2, h => by
    have := pds_izs st xs (n + 1) (by simp at h; omega)
    show (match pd st (n + 1) (.int x) with
      | some d => match pds st (n + 1) (izs xs) with
        | some ds => some (d :: ds)
        | none => none
      | none => none) = _
    rw [this]
    rfl
theorem lay_izs : ∀ xs : List Int, PyData.canLayAll0 (xs.map PyData.int) = true
  | [] => by simp only [List.map_nil, PyData.canLayAll0]
  | x :: xs => by simp only [List.map_cons, PyData.canLayAll0, PyData.canLay0, lay_izs xs, Bool.and_self]
theorem dep_izs : ∀ xs : List Int, PyData.depthAll (xs.map PyData.int) = 0
  | [] => by simp only [List.map_nil, PyData.depthAll]
  | x :: xs => by simp only [List.map_cons, PyData.depthAll, PyData.depth, dep_izs xs, Nat.max_self]
theorem ne_great {g : Int} {gs cs : List Int} {r tu : Int} {X : List O} (h : (g :: gs).length ≤ 63) : neT (.ref 1) (.lst []) (B ⟨g :: gs, cs, r, tu⟩ X) = .ok (.bl true) (B ⟨g :: gs, cs, r, tu⟩ X) := by
  have a : pd (B ⟨g :: gs, cs, r, tu⟩ X) 100 (.ref 1) = some (.list ((g :: gs).map PyData.int)) := by
    have := pds_izs (B ⟨g :: gs, cs, r, tu⟩ X) (g :: gs) 99 (by omega)
    unfold pd
    show (match pds _ 99 (izs (g :: gs)) with
      | some ds => some (PyData.list ds)
      | none => none) = _
    rw [this]
  have b : pd (B ⟨g :: gs, cs, r, tu⟩ X) 100 (.lst []) = some (.list []) := rfl
  have c : SeqAt.shaped (.list ((g :: gs).map PyData.int)) = true := by
    unfold SeqAt.shaped
    rw [Bool.and_eq_true]
    refine ⟨?_, ?_⟩
    · unfold PyData.canLay0; exact lay_izs _
    · apply decide_eq_true; unfold PyData.depth; rw [dep_izs]; omega
  have d : SeqAt.shaped (.list []) = true := rfl
  have e : PyData.eqv (.list ((g :: gs).map PyData.int)) (.list []) = false := by
    simp only [List.map_cons, PyData.eqv, PyData.eqvAll]
  show (match eqD _ (.ref 1) (.lst []) with
    | some k => Rs.ok (T.bl (!k)) _
    | none => Rs.no) = _
  unfold eqD
  simp only [a, b, c, d, e, Bool.and_self, Bool.not_false]
theorem pop_great {g : Int} {gs cs : List Int} {r tu : Int} {X : List O} : popAtT (.ref 1) [.int 0] (B ⟨g :: gs, cs, r, tu⟩ X) = .ok (.int g) (B ⟨gs, cs, r, tu⟩ X) := by
  have e : seqIndex? 0 (izs (g :: gs)).length = some 0 := by
    unfold seqIndex?
    simp
  show (match decide (-(2 ^ 63) ≤ (0 : Int)) && decide ((0 : Int) < 2 ^ 63) with
    | true => match seqIndex? 0 (izs (g :: gs)).length with
      | some k => match (izs (g :: gs))[k]? with
        | some y => Rs.ok y ((B ⟨g :: gs, cs, r, tu⟩ X).set 1 (.lst ((izs (g :: gs)).eraseIdx k)))
        | none => Rs.no
      | none => Rs.no
    | false => Rs.no) = _
  have f : (decide (-(2 ^ 63) ≤ (0 : Int)) && decide ((0 : Int) < 2 ^ 63)) = true := by decide
  rw [f, e]
  rfl
theorem draw_ok {n : Nat} {s : SP} {X : List O} {r : Int} (h : Ok (n + 1) s) (hr : 0 < r) (hr2 : r < 2 ^ 60) (hX : Clo X) : ∃ (d : Int) (s' : SP), drop m_l_draw [.ref 2, .int r] (B s X) = .ok (.int d) (B s' X) ∧ 0 ≤ d ∧ d < r ∧ Ok n s' := by
  -- the second half
  have tail : ∀ s1 : SP, Ok n s1 → ∃ (d : Int) (s' : SP), mSeq (mSet 2 (mOp modT (mCB intX (mCons (mOp dgetT (mVar 0) (mC (.str "rest"))) mNil)) (mVar 1))) (mSeq (mDput (mVar 0) (mC (.str "rest")) (mOp fdivT (mOp dgetT (mVar 0) (mC (.str "rest"))) (mVar 1))) (mRet (mVar 2))) [some (.ref 2), some (.int r), none] (B s1 X) = .ok (.rt (.int d)) (B s' X) ∧ 0 ≤ d ∧ d < r ∧ Ok n s' := by
    intro s1 h1
    refine ⟨s1.rest % r, { s1 with rest := s1.rest / r }, ?_, Int.emod_nonneg _ (by omega), Int.emod_lt_of_pos _ hr, ⟨h1.gl, h1.cl, h1.gp, h1.cp, Int.ediv_nonneg h1.rp (by omega), h1.tp, h1.tn⟩⟩
    have e1 : modT (.int s1.rest) (.int r) (B s1 X) = .ok (.int (s1.rest % r)) (B s1 X) := modT_int hr
    have e2 : fdivT (.int s1.rest) (.int r) (B s1 X) = .ok (.int (s1.rest / r)) (B s1 X) := fdivT_int hr (by omega)
    have d1 : mSet 2 (mOp modT (mCB intX (mCons (mOp dgetT (mVar 0) (mC (.str "rest"))) mNil)) (mVar 1)) [some (.ref 2), some (.int r), none] (B s1 X) = .ok (.nx [some (.ref 2), some (.int r), some (.int (s1.rest % r))]) (B s1 X) := by
      simp only [mSet, mOp, mVar, mC, mCB, mCons, mNil, List.getElem?_cons_succ, List.getElem?_cons_zero, Rs.bind, get_rest, intX, oneInt, e1, Rs.bindS]
      rfl
    have d2 : mDput (mVar 0) (mC (.str "rest")) (mOp fdivT (mOp dgetT (mVar 0) (mC (.str "rest"))) (mVar 1)) [some (.ref 2), some (.int r), some (.int (s1.rest % r))] (B s1 X) = .ok (.nx [some (.ref 2), some (.int r), some (.int (s1.rest % r))]) (B { s1 with rest := s1.rest / r } X) := by
      simp only [mDput, mOp, mVar, mC, List.getElem?_cons_succ, List.getElem?_cons_zero, Rs.bind, get_rest, e2, put_rest, Rs.bindS]
    rw [seq_nx d1, seq_nx d2]
    rfl
  have head : ∃ s1 : SP, Ok n s1 ∧ mIfS (mTst (mOp eqT (mOp dgetT (mVar 0) (mC (.str "rest"))) (mC (.int 0)))) (mDput (mVar 0) (mC (.str "rest")) (mIf (mTst (mOp neT (mOp dgetT (mVar 0) (mC (.str "great"))) (mLst mNil))) (mMet isL popAtT (mOp dgetT (mVar 0) (mC (.str "great"))) (mCons (mC (.int 0)) mNil)) (mCall 1 (drop m_l_mixed) [] (mCons (mVar 0) mNil)))) mNext [some (.ref 2), some (.int r), none] (B s X) = .ok (.nx [some (.ref 2), some (.int r), none]) (B s1 X) := by
    by_cases q : s.rest = 0
    · have c1 : mTst (mOp eqT (mOp dgetT (mVar 0) (mC (.str "rest"))) (mC (.int 0))) [some (.ref 2), some (.int r), none] (B s X) = .ok true (B s X) := by
        simp only [mTst, mOp, mVar, mC, List.getElem?_cons_zero, Rs.bind, get_rest, eqT, q, decide_true]
      have z : ∃ (i : Int) (s1 : SP), Ok n s1 ∧ 0 ≤ i ∧ mIf (mTst (mOp neT (mOp dgetT (mVar 0) (mC (.str "great"))) (mLst mNil))) (mMet isL popAtT (mOp dgetT (mVar 0) (mC (.str "great"))) (mCons (mC (.int 0)) mNil)) (mCall 1 (drop m_l_mixed) [] (mCons (mVar 0) mNil)) [some (.ref 2), some (.int r), none] (B s X) = .ok (.int i) (B s1 X) := by
        cases s with
        | mk gs cs rs tu =>
        cases gs with
        | nil =>
          obtain ⟨i, e, hi⟩ := mixed_ok (X := X) h
          have e' := drop_ok' e rfl h.gl h.cl hX
          refine ⟨i, ⟨[], cs, rs, tu + 1⟩, ⟨h.gl, h.cl, h.gp, h.cp, h.rp, by have := h.tp; simp only at this ⊢; omega, by have := h.tn; simp only at this ⊢; omega⟩, hi, ?_⟩
          exact e'
        | cons g gs =>
          refine ⟨g, ⟨gs, cs, rs, tu⟩, ⟨by have := h.gl; simp at this ⊢; omega, h.cl, fun z hz => h.gp z (List.mem_cons_of_mem _ hz), h.cp, h.rp, h.tp, by have := h.tn; simp only at this ⊢; omega⟩, h.gp g (List.mem_cons_self ..), ?_⟩
          have c1 : mTst (mOp neT (mOp dgetT (mVar 0) (mC (.str "great"))) (mLst mNil)) [some (.ref 2), some (.int r), none] (B ⟨g :: gs, cs, rs, tu⟩ X) = .ok true (B ⟨g :: gs, cs, rs, tu⟩ X) := by
            show (neT (.ref 1) (.lst []) (B ⟨g :: gs, cs, rs, tu⟩ X)).bind _ = _
            rw [ne_great h.gl]
            rfl
          show ((mTst (mOp neT (mOp dgetT (mVar 0) (mC (.str "great"))) (mLst mNil)) [some (.ref 2), some (.int r), none] (B ⟨g :: gs, cs, rs, tu⟩ X)).bind _) = _
          rw [c1]
          exact pop_great
      obtain ⟨i, s1, h1, hi, e⟩ := z
      refine ⟨{ s1 with rest := i }, ⟨h1.gl, h1.cl, h1.gp, h1.cp, hi, h1.tp, h1.tn⟩, ?_⟩
      rw [if_t c1]
      unfold mDput
      rw [e]
      rfl
    · have c1 : mTst (mOp eqT (mOp dgetT (mVar 0) (mC (.str "rest"))) (mC (.int 0))) [some (.ref 2), some (.int r), none] (B s X) = .ok false (B s X) := by
        simp only [mTst, mOp, mVar, mC, List.getElem?_cons_zero, Rs.bind, get_rest, eqT, q, decide_false]
      refine ⟨s, h.mono (by omega), ?_⟩
      rw [if_f c1]
      rfl
  obtain ⟨s1, h1, e1⟩ := head
  obtain ⟨d, s', e2, a, b, h2⟩ := tail s1 h1
  refine ⟨d, s', drop_ok' (t := .int d) ?_ rfl h2.gl h2.cl hX, a, b, h2⟩
  unfold m_l_draw
  apply def_rt
  unfold b_l_draw
  exact (seq_nx e1).trans e2
end G08
namespace G08
open PySem L2 WR
theorem not_t {b : Bool} (h : b = false) : (!b) = true := by rw [h]; rfl
theorem not_f {b : Bool} (h : b = true) : (!b) = false := by rw [h]; rfl
/-! ### rules: how a mirror is worked out, step by step -/
section
variable {σ σ1 σ2 : Ev} {st st1 st2 st3 st4 st5 : List O}
theorem e_var {i : Nat} {t : T} (h : σ[i]? = some (some t)) : mVar i σ st = .ok t st := by unfold mVar; rw [h]
theorem e_c {t : T} : mC t σ st = .ok t st := rfl
theorem e_nil : mNil σ st = .ok [] st := rfl
theorem e_cons {a : ME} {r : M (List T)} {t : T} {ts : List T} (h : a σ st = .ok t st1) (k : r σ st1 = .ok ts st2) : mCons a r σ st = .ok (t :: ts) st2 := by
  unfold mCons; rw [h]; simp only [Rs.bind, k]
theorem e_tup {a : M (List T)} {ts : List T} (h : a σ st = .ok ts st1) (k : sizeOk ts.length = true) : mTup a σ st = .ok (.tup ts) st1 := by
  unfold mTup; rw [h]; simp only [Rs.bind, k]
theorem e_lst {a : M (List T)} {ts : List T} (h : a σ st = .ok ts st1) (k : sizeOk ts.length = true) : mLst a σ st = .ok (.lst ts) st1 := by
  unfold mLst; rw [h]; simp only [Rs.bind, k]
theorem e_lstM {a : M (List T)} {ts : List T} (h : a σ st = .ok ts st1) (k : sizeOk ts.length = true) : mLstM a σ st = .ok (.ref st1.length) (st1 ++ [.lst ts]) := by
  unfold mLstM; rw [h]; simp only [Rs.bind, k]
theorem e_op {f : T → T → List O → Rs T} {a b : ME} {x y : T} {r : Rs T} (h : a σ st = .ok x st1) (k : b σ st1 = .ok y st2) (q : f x y st2 = r) : mOp f a b σ st = r := by
  unfold mOp; rw [h]; simp only [Rs.bind, k, q]
theorem e_un {f : T → List O → Rs T} {a : ME} {x : T} {r : Rs T} (h : a σ st = .ok x st1) (q : f x st1 = r) : mUn f a σ st = r := by
  unfold mUn; rw [h]; exact q
theorem e_tst {a : ME} {b : Bool} (h : a σ st = .ok (.bl b) st1) : mTst a σ st = .ok b st1 := by
  unfold mTst; rw [h]; rfl
theorem e_not {a : M Bool} {b c : Bool} (h : a σ st = .ok b st1) (k : (!b) = c) : mNot a σ st = .ok c st1 := by
  subst k; unfold mNot; rw [h]; rfl
theorem e_notV {a : ME} {b c : Bool} (h : a σ st = .ok (.bl b) st1) (k : (!b) = c) : mNotV a σ st = .ok (.bl c) st1 := by
  subst k; unfold mNotV; rw [h]; rfl
theorem e_neg {a : ME} {i : Int} (h : a σ st = .ok (.int i) st1) : mNeg a σ st = .ok (.int (-i)) st1 := by
  unfold mNeg; rw [h]; rfl
theorem e_orT {a b : M Bool} {k : Bool} (h : a σ st = .ok k st1) (q : k = true) : mOr a b σ st = .ok true st1 := by
  subst q; unfold mOr; rw [h]; rfl
theorem e_orF {a b : M Bool} {k : Bool} {r : Rs Bool} (h : a σ st = .ok k st1) (q : k = false) (w : b σ st1 = r) : mOr a b σ st = r := by
  subst q; unfold mOr; rw [h]; exact w
theorem e_andF {a b : M Bool} {k : Bool} (h : a σ st = .ok k st1) (q : k = false) : mAnd a b σ st = .ok false st1 := by
  subst q; unfold mAnd; rw [h]; rfl
theorem e_andT {a b : M Bool} {k : Bool} {r : Rs Bool} (h : a σ st = .ok k st1) (q : k = true) (w : b σ st1 = r) : mAnd a b σ st = r := by
  subst q; unfold mAnd; rw [h]; exact w
theorem e_andVF {a b : ME} {k : Bool} (h : a σ st = .ok (.bl k) st1) (q : k = false) : mAndV a b σ st = .ok (.bl false) st1 := by
  subst q; unfold mAndV; rw [h]; rfl
theorem e_andVT {a b : ME} {k : Bool} {r : Rs T} (h : a σ st = .ok (.bl k) st1) (q : k = true) (w : b σ st1 = r) : mAndV a b σ st = r := by
  subst q; unfold mAndV; rw [h]; exact w
theorem e_ifT {c : M Bool} {a b : ME} {k : Bool} {r : Rs T} (h : c σ st = .ok k st1) (q : k = true) (w : a σ st1 = r) : mIf c a b σ st = r := by
  subst q; unfold mIf; rw [h]; exact w
theorem e_ifF {c : M Bool} {a b : ME} {k : Bool} {r : Rs T} (h : c σ st = .ok k st1) (q : k = false) (w : b σ st1 = r) : mIf c a b σ st = r := by
  subst q; unfold mIf; rw [h]; exact w
theorem e_partN : mPart none σ st = .ok none st := rfl
theorem e_partS {m : ME} {i : Int} (h : m σ st = .ok (.int i) st1) : mPart (some m) σ st = .ok (some i) st1 := by
  unfold mPart; simp only [h, Rs.bind]
theorem e_sl {a : ME} {lo hi : Option ME} {x : T} {l u : Option Int} {r : Rs T} (h : a σ st = .ok x st1) (k : mPart lo σ st1 = .ok l st2) (q : mPart hi σ st2 = .ok u st3) (w : slT x l u st3 = r) : mSl a lo hi σ st = r := by
  unfold mSl; rw [h]; simp only [Rs.bind, k, q, w]
theorem e_call {n : Nat} {m : MF} {args : M (List T)} {ts : List T} {r : Rs T} (h : args σ st = .ok ts st1) (k : ts.length = n) (q : m ts st1 = r) : mCall n m [] args σ st = r := by
  unfold mCall; rw [h]
  have : Nat.beq ts.length n = true := by rw [k]; exact Nat.beq_refl n
  simp only [Rs.bind, List.append_nil, this, q]
theorem e_callK {nk n : Nat} {ix : List Nat} {m : MF} {args : M (List T)} {ts us : List T} {r : Rs T} (h : args σ st = .ok ts st1) (k : ts.length = nk) (p : permT ix ts = us) (l : us.length = n) (q : m us st1 = r) : mCallK nk n ix m args σ st = r := by
  unfold mCallK; rw [h]
  have e : Nat.beq ts.length nk = true := by rw [k]; exact Nat.beq_refl nk
  have f : Nat.beq us.length n = true := by rw [l]; exact Nat.beq_refl n
  simp only [Rs.bind, p, e, f, q]
theorem e_cb {f : MF} {args : M (List T)} {ts : List T} {r : Rs T} (h : args σ st = .ok ts st1) (q : f ts st1 = r) : mCB f args σ st = r := by
  unfold mCB; rw [h]; exact q
theorem e_met {ty : T → List O → Bool} {f : T → List T → List O → Rs T} {o : ME} {args : M (List T)} {x : T} {ts : List T} {r : Rs T} (h : o σ st = .ok x st1) (k : ty x st1 = true) (q : args σ st1 = .ok ts st2) (w : f x ts st2 = r) : mMet ty f o args σ st = r := by
  unfold mMet; rw [h]; simp only [Rs.bind, k, q, w]
theorem e_chainT {f g : T → T → List O → Rs T} {a b c : ME} {x y z : T} {k : Bool} {r : Rs T} (h : a σ st = .ok x st1) (q : b σ st1 = .ok y st2) (w : f x y st2 = .ok (.bl k) st3) (e : k = true) (u : c σ st3 = .ok z st4) (v : g y z st4 = r) : mChain f g a b c σ st = r := by
  subst e; unfold mChain; rw [h]; simp only [Rs.bind, q, w, u, v]
theorem e_chainF {f g : T → T → List O → Rs T} {a b c : ME} {x y : T} {k : Bool} (h : a σ st = .ok x st1) (q : b σ st1 = .ok y st2) (w : f x y st2 = .ok (.bl k) st3) (e : k = false) : mChain f g a b c σ st = .ok (.bl false) st3 := by
  subst e; unfold mChain; rw [h]; simp only [Rs.bind, q, w]
theorem e_tupRg {a : ME} {n : Nat} (h : a σ st = .ok (.int n) st1) (k : n ≤ 16777216) : mTupRg a σ st = .ok (.tup (rgT n)) st1 := by
  unfold mTupRg; rw [h]
  have : (decide ((0 : Int) ≤ n) && decide ((n : Int) ≤ 16777216)) = true := by rw [Bool.and_eq_true]; exact ⟨decide_eq_true (by omega), decide_eq_true (by omega)⟩
  simp only [Rs.bind, this, Int.toNat_natCast]
theorem e_d0 : mD0 false σ st = .ok (.dct [] []) st := rfl
theorem e_meth {c : Nat} {nm : Str} {n : Nat} {m : MF} {o : ME} {args : M (List T)} {x : T} {k : Nat} {fs : List Str} {vs ts : List T} {r : Rs T} (h : o σ st = .ok x st1) (i : insT st1 x = some (k, fs, vs)) (b : Nat.beq k c = true) (l : lookF fs vs nm = none) (q : args σ st1 = .ok ts st2) (g : (x :: ts).length = n) (w : m (x :: ts) st2 = r) : mMeth c nm n m [] o args σ st = r := by
  unfold mMeth; rw [h]
  have : Nat.beq (x :: ts).length n = true := by rw [g]; exact Nat.beq_refl n
  simp only [Rs.bind, i, b, l, q, List.append_nil, this, w]
theorem e_caught {n k : Nat} {sub : Nat → Option Bool} {m : ME} {e : Ex} (h : st[n]? = some (.tbl k)) (q : m σ st = .exc e st1) (w : sub e.c = some true) : mCaught n k sub m σ st = .ok (.exc e.c e.fs e.vs) st1 := by
  unfold mCaught; rw [h]
  have : Nat.beq k k = true := Nat.beq_refl k
  simp only [this, q, w]
theorem e_or {a b : M Bool} {k : Bool} {r : Rs Bool} (h : a σ st = .ok k st1) (q : (k = true ∧ Rs.ok true st1 = r) ∨ (k = false ∧ b σ st1 = r)) : mOr a b σ st = r := by
  rcases q with ⟨q, w⟩ | ⟨q, w⟩
  · rw [e_orT h q]; exact w
  · exact e_orF h q w
theorem e_and {a b : M Bool} {k : Bool} {r : Rs Bool} (h : a σ st = .ok k st1) (q : (k = true ∧ b σ st1 = r) ∨ (k = false ∧ Rs.ok false st1 = r)) : mAnd a b σ st = r := by
  rcases q with ⟨q, w⟩ | ⟨q, w⟩
  · exact e_andT h q w
  · rw [e_andF h q]; exact w
theorem e_andV {a b : ME} {k : Bool} {r : Rs T} (h : a σ st = .ok (.bl k) st1) (q : (k = true ∧ b σ st1 = r) ∨ (k = false ∧ Rs.ok (.bl false) st1 = r)) : mAndV a b σ st = r := by
  rcases q with ⟨q, w⟩ | ⟨q, w⟩
  · exact e_andVT h q w
  · rw [e_andVF h q]; exact w
theorem e_if {c : M Bool} {a b : ME} {k : Bool} {r : Rs T} (h : c σ st = .ok k st1) (q : (k = true ∧ a σ st1 = r) ∨ (k = false ∧ b σ st1 = r)) : mIf c a b σ st = r := by
  rcases q with ⟨q, w⟩ | ⟨q, w⟩
  · exact e_ifT h q w
  · exact e_ifF h q w
theorem e_chain {f g : T → T → List O → Rs T} {a b c : ME} {x y : T} {k : Bool} {r : Rs T} (h : a σ st = .ok x st1) (q : b σ st1 = .ok y st2) (w : f x y st2 = .ok (.bl k) st3) (e : (k = true ∧ ∃ z st4, c σ st3 = .ok z st4 ∧ g y z st4 = r) ∨ (k = false ∧ Rs.ok (.bl false) st3 = r)) : mChain f g a b c σ st = r := by
  rcases e with ⟨e, z, st4, u, v⟩ | ⟨e, v⟩
  · exact e_chainT h q w e u v
  · rw [e_chainF h q w e]; exact v
theorem e_ex {g : T → T → List O → Rs T} {c : ME} {y z : T} {r : Rs T} (h : c σ st3 = .ok z st4) (v : g y z st4 = r) : ∃ z st4, c σ st3 = .ok z st4 ∧ g y z st4 = r := ⟨z, st4, h, v⟩
/-- statements -/
theorem s_if {c : M Bool} {a b : MS} {k : Bool} {r : RsS} (h : c σ st = .ok k st1) (q : (k = true ∧ a σ st1 = r) ∨ (k = false ∧ b σ st1 = r)) : mIfS c a b σ st = r := by
  rcases q with ⟨q, w⟩ | ⟨q, w⟩
  · subst q; rw [if_t h]; exact w
  · subst q; rw [if_f h]; exact w
theorem s_seq {a b : MS} {r : RsS} (h : a σ st = .ok (.nx σ1) st1) (k : b σ1 st1 = r) : mSeq a b σ st = r := (seq_nx h).trans k
theorem s_seqR {a b : MS} {t : T} (h : a σ st = .ok (.rt t) st1) : mSeq a b σ st = .ok (.rt t) st1 := seq_rt h
theorem s_seqX {a b : MS} {e : Ex} (h : a σ st = .exc e σ1 st1) : mSeq a b σ st = .exc e σ1 st1 := seq_exc h
theorem s_next : mNext σ st = .ok (.nx σ) st := rfl
theorem s_expr {a : ME} {t : T} (h : a σ st = .ok t st1) : mExpr a σ st = .ok (.nx σ) st1 := by unfold mExpr; rw [h]; rfl
theorem s_exprX {a : ME} {e : Ex} (h : a σ st = .exc e st1) : mExpr a σ st = .exc e σ st1 := by unfold mExpr; rw [h]; rfl
theorem s_ret {a : ME} {t : T} (h : a σ st = .ok t st1) : mRet a σ st = .ok (.rt t) st1 := by unfold mRet; rw [h]; rfl
theorem s_retX {a : ME} {e : Ex} (h : a σ st = .exc e st1) : mRet a σ st = .exc e σ st1 := by unfold mRet; rw [h]; rfl
theorem s_ifT {c : M Bool} {a b : MS} {k : Bool} {r : RsS} (h : c σ st = .ok k st1) (q : k = true) (w : a σ st1 = r) : mIfS c a b σ st = r := by
  subst q; rw [if_t h]; exact w
theorem s_ifF {c : M Bool} {a b : MS} {k : Bool} {r : RsS} (h : c σ st = .ok k st1) (q : k = false) (w : b σ st1 = r) : mIfS c a b σ st = r := by
  subst q; rw [if_f h]; exact w
theorem s_set {i : Nat} {a : ME} {t : T} (h : a σ st = .ok t st1) (k : σ.set i (some t) = σ1) : mSet i a σ st = .ok (.nx σ1) st1 := by subst k; unfold mSet; rw [h]; rfl
theorem s_par {i j : Nat} {a : M (List T)} {t u : T} (h : a σ st = .ok [t, u] st1) (k : (σ.set i (some t)).set j (some u) = σ1) : mPar i j a σ st = .ok (.nx σ1) st1 := by subst k; unfold mPar; rw [h]; rfl
theorem s_asg {g : AG} {a : ME} {t : T} (h : a σ st = .ok t st1) (k : g t σ = some σ1) : mAsg g a σ st = .ok (.nx σ1) st1 := by unfold mAsg; rw [h]; simp only [Rs.bindS, k]
theorem s_dput {o i v : ME} {x y z : T} (h : v σ st = .ok z st1) (k : o σ st1 = .ok x st2) (q : i σ st2 = .ok y st3) (w : dputT x y z st3 = some st4) : mDput o i v σ st = .ok (.nx σ) st4 := by
  unfold mDput; rw [h]; simp only [Rs.bindS, k, q, w]
theorem s_setIx {o i v : ME} {x y z : T} (h : v σ st = .ok z st1) (k : o σ st1 = .ok x st2) (q : i σ st2 = .ok y st3) (w : setT x y z st3 = some st4) : mSetIx o i v σ st = .ok (.nx σ) st4 := by
  unfold mSetIx; rw [h]; simp only [Rs.bindS, k, q, w]
theorem s_putF {c : Nat} {f : Str} {o v : ME} {x z : T} (h : v σ st = .ok z st1) (k : o σ st1 = .ok x st2) (w : putO c f x z st2 = some st3) : mPutF c f o v σ st = .ok (.nx σ) st3 := by
  unfold mPutF; rw [h]; simp only [Rs.bindS, k, w]
theorem s_raise0 {c : Nat} : mRaise0 c σ st = .exc ⟨c, [], []⟩ σ st := rfl
theorem s_raiseX {c : Nat} {f : Str} {ds : List T} {args : M (List T)} {ts : List T} {x y : T} (h : args σ st = .ok ts st1) (k : ts ++ ds = [x, y]) : mRaiseX c f ds args σ st = .exc ⟨c, [f], [y]⟩ σ st1 := by
  unfold mRaiseX; rw [h]; simp only [Rs.bindS, k]
/-- what is walked -/
theorem i_tup {a : ME} {xs : List T} (h : a σ st = .ok (.tup xs) st1) : mIA a σ st = .ok (.tup xs) st1 := by
  unfold mIA; rw [h]; unfold mIT; rw [h]; rfl
theorem i_lst {a : ME} {xs : List T} (h : a σ st = .ok (.lst xs) st1) : mIA a σ st = .ok (.lst xs) st1 := by
  unfold mIA; rw [h]; unfold mIL; rw [h]; rfl
theorem i_scr {a : ME} {xs : List Int} (h : a σ st = .ok (.scr xs) st1) : mIA a σ st = .ok (.scr xs) st1 := by
  unfold mIA; rw [h]; unfold mIL; rw [h]; rfl
theorem i_ref {a : ME} {n : Nat} {xs : List T} (h : a σ st = .ok (.ref n) st1) (k : st1[n]? = some (.lst xs)) : mIA a σ st = .ok (.live n) st1 := by
  unfold mIA; rw [h]; unfold mIL; rw [h]; simp only [Rs.bind, srcOf, k]
theorem rngOk_nat {n : Nat} (k : n < 1000000) : rngOk (n : Int) = true := by
    unfold rngOk
    rw [decide_eq_true, decide_eq_true]
    · rfl
    · omega
    · omega
theorem ir_aux {j : Int} {a : M (List T)} (h : a σ st = .ok [.int j] st1) (k : rngOk j = true) : mIR1 a σ st = .ok (.rng 0 j.toNat) st1 := by
  unfold mIR1; rw [h]
  show (match rngOk j with
    | true => Rs.ok (Src.rng 0 j.toNat) st1
    | false => Rs.no) = _
  rw [k]
theorem i_rng {a : M (List T)} {n : Nat} (h : a σ st = .ok [.int n] st1) (k : n < 1000000) : mIR1 a σ st = .ok (.rng 0 n) st1 := ir_aux h (rngOk_nat k)
theorem srcAt_rng {n : Nat} : ∀ (st : List O) (i : Nat), srcAt (.rng 0 n) st i = some (rgT n)[i]? := by
  intro st i
  unfold srcAt rgT
  cases q : Nat.blt i n with
  | true =>
    have : i < n := by rw [Nat.blt_eq] at q; exact q
    simp only [q, List.getElem?_map, List.getElem?_range this, Option.map_some]
    simp
  | false =>
    have : n ≤ i := by
      have := mt (Nat.blt_eq (x := i) (y := n)).mpr (by rw [q]; decide)
      omega
    have : (List.range n)[i]? = none := List.getElem?_eq_none (by simpa using this)
    simp only [q, List.getElem?_map, this, Option.map_none]
/-- comprehensions over nothing, one thing, two things -/
theorem lc_0 {it : M Src} {src : Src} {vs : List Nat} {g : AG} {c : M Bool} {elt : ME} (hi : it σ st = .ok src st1) (h0 : srcAt src st1 0 = some none) : mLc it vs g c elt σ st = .ok (.lst []) st1 := by
  unfold mLc; rw [hi]; simp only [Rs.bind]
  rw [show fuel = 999999 + 1 from rfl]
  unfold lcL
  simp only [h0]
theorem lcL_1 {src : Src} {g : AG} {c : M Bool} {elt : ME} {m i : Nat} {acc : List T} {t v : T} (h0 : srcAt src st i = some (some t)) (hg : g t σ = some σ1) (hc : c σ1 st = .ok true st1) (he : elt σ1 st1 = .ok v st2) (hl : acc.length < 1000) : lcL src g c elt σ (m + 1) i acc st = lcL src g c elt σ m (i + 1) (acc ++ [v]) st2 := by
  rw [lcL.eq_def]
  have : decide (acc.length < 16777216) = true := decide_eq_true (by omega)
  simp only [h0, hg, hc, he, this]
theorem lcL_0 {src : Src} {g : AG} {c : M Bool} {elt : ME} {m i : Nat} {acc : List T} (h0 : srcAt src st i = some none) : lcL src g c elt σ (m + 1) i acc st = .ok acc st := by
  rw [lcL.eq_def]
  simp only [h0]
theorem lc_1 {it : M Src} {src : Src} {vs : List Nat} {g : AG} {c : M Bool} {elt : ME} {t v : T} (hi : it σ st = .ok src st1) (h0 : srcAt src st1 0 = some (some t)) (hg : g t (wipeE σ vs) = some σ1) (hc : c σ1 st1 = .ok true st2) (he : elt σ1 st2 = .ok v st3) (h1 : srcAt src st3 1 = some none) : mLc it vs g c elt σ st = .ok (.lst [v]) st3 := by
  unfold mLc; rw [hi]; simp only [Rs.bind]
  rw [show fuel = 999998 + 1 + 1 from rfl, lcL_1 h0 hg hc he (by decide), lcL_0 h1]
  rfl
theorem lc_2 {it : M Src} {src : Src} {vs : List Nat} {g : AG} {c : M Bool} {elt : ME} {t v t' v' : T} (hi : it σ st = .ok src st1) (h0 : srcAt src st1 0 = some (some t)) (hg : g t (wipeE σ vs) = some σ1) (hc : c σ1 st1 = .ok true st2) (he : elt σ1 st2 = .ok v st3) (h1 : srcAt src st3 1 = some (some t')) (hg' : g t' (wipeE σ vs) = some σ2) (hc' : c σ2 st3 = .ok true st4) (he' : elt σ2 st4 = .ok v' st5) (h2 : srcAt src st5 2 = some none) : mLc it vs g c elt σ st = .ok (.lst [v, v']) st5 := by
  unfold mLc; rw [hi]; simp only [Rs.bind]
  rw [show fuel = 999997 + 1 + 1 + 1 from rfl, lcL_1 h0 hg hc he (by decide), lcL_1 h1 hg' hc' he' (by simp), lcL_0 h2]
  rfl
/-- comprehensions and loops over what is known, step by step -/
def iaOf (st : List O) (t : T) : Option Src := match t with
  | .tup xs => some (.tup xs)
  | t => srcOf st t
theorem i_ia {a : ME} {t : T} {src : Src} (h : a σ st = .ok t st1) (k : iaOf st1 t = some src) : mIA a σ st = .ok src st1 := by
  cases t with
  | tup xs => cases k; exact i_tup h
  | _ =>
    unfold mIA; rw [h]; unfold mIL; rw [h]
    simp only [iaOf] at k
    simp only [Rs.bind, k]
theorem i_r1 {a : M (List T)} {j : Int} (h : a σ st = .ok [.int j] st1) (k : rngOk j = true) : mIR1 a σ st = .ok (.rng 0 j.toNat) st1 := ir_aux h k
theorem e_lc {it : M Src} {src : Src} {vs : List Nat} {g : AG} {c : M Bool} {elt : ME} {acc : List T} (h : it σ st = .ok src st1) (w : wipeE σ vs = σ1) (k : lcL src g c elt σ1 1000000 0 [] st1 = .ok acc st2) : mLc it vs g c elt σ st = .ok (.lst acc) st2 := by
  subst w
  unfold mLc; rw [h]
  have k' : lcL src g c elt (wipeE σ vs) fuel 0 [] st1 = .ok acc st2 := k
  simp only [Rs.bind, k']
theorem e_lcM {it : M Src} {src : Src} {vs : List Nat} {g : AG} {c : M Bool} {elt : ME} {acc : List T} (h : it σ st = .ok src st1) (w : wipeE σ vs = σ1) (k : lcL src g c elt σ1 1000000 0 [] st1 = .ok acc st2) : mLcM it vs g c elt σ st = .ok (.ref st2.length) (st2 ++ [.lst acc]) := by
  subst w
  unfold mLcM; rw [h]
  have k' : lcL src g c elt (wipeE σ vs) fuel 0 [] st1 = .ok acc st2 := k
  simp only [Rs.bind, k']
theorem l_0 {src : Src} {g : AG} {c : M Bool} {elt : ME} {m i : Nat} {acc acc' : List T} (h0 : srcAt src st i = some none) (ha : acc = acc') : lcL src g c elt σ (m + 1) i acc st = .ok acc' st := ha ▸ lcL_0 h0
theorem l_1 {src : Src} {g : AG} {c : M Bool} {elt : ME} {m i j : Nat} {acc : List T} {t : T} {k : Bool} {r : Rs (List T)} (h0 : srcAt src st i = some (some t)) (hj : i + 1 = j) (hg : g t σ = some σ1) (hc : c σ1 st = .ok k st1)
    (q : (k = true ∧ ∃ v st2 acc', elt σ1 st1 = .ok v st2 ∧ acc ++ [v] = acc' ∧ acc.length < 1000 ∧ lcL src g c elt σ m j acc' st2 = r) ∨ (k = false ∧ lcL src g c elt σ m j acc st1 = r)) : lcL src g c elt σ (m + 1) i acc st = r := by
  subst hj
  rcases q with ⟨rfl, v, st2, acc', he, rfl, hl, w⟩ | ⟨rfl, w⟩
  · rw [lcL_1 h0 hg hc he hl]; exact w
  · rw [lcL.eq_def]; simp only [h0, hg, hc]; exact w
theorem l_ex {elt : ME} {src : Src} {g : AG} {c : M Bool} {v : T} {acc acc' : List T} {m j : Nat} {r : Rs (List T)} (he : elt σ1 st1 = .ok v st2) (ha : acc ++ [v] = acc') (hl : acc.length < 1000) (w : lcL src g c elt σ m j acc' st2 = r) : ∃ v st2 acc', elt σ1 st1 = .ok v st2 ∧ acc ++ [v] = acc' ∧ acc.length < 1000 ∧ lcL src g c elt σ m j acc' st2 = r := ⟨v, st2, acc', he, ha, hl, w⟩
theorem s_for {it : M Src} {src : Src} {g : AG} {body : MS} {r : RsS} (h : it σ st = .ok src st1) (k : forL src g body 1000000 0 σ st1 = r) : mFor it g body σ st = r := by
  unfold mFor; rw [h]; exact k
theorem f_0 {src : Src} {g : AG} {body : MS} {m i : Nat} (h0 : srcAt src st i = some none) : forL src g body (m + 1) i σ st = .ok (.nx σ) st := by
  rw [forL.eq_def]; simp only [h0]
theorem f_1 {src : Src} {g : AG} {body : MS} {m i j : Nat} {t : T} {r : RsS} (h0 : srcAt src st i = some (some t)) (hj : i + 1 = j) (hg : g t σ = some σ1) (hb : body σ1 st = .ok (.nx σ2) st2) (w : forL src g body m j σ2 st2 = r) : forL src g body (m + 1) i σ st = r := by
  subst hj
  rw [forL.eq_def]; simp only [h0, hg, hb]; exact w
end
end G08
namespace G08
open PySem L2 WR
theorem def_rt' {N : Nat} {b : MS} {ts : List T} {t : T} {σ : Ev} {st st1 : List O} (e : ts.map some ++ List.replicate (N - ts.length) none = σ) (h : b σ st = .ok (.rt t) st1) : mDef N b ts st = .ok t st1 := def_rt (by rw [e]; exact h)
theorem atI_nat {α : Type} {xs : List α} {d : Int} {r : α} (a : 0 ≤ d) (k : xs[d.toNat]? = some r) : atI xs d = some r := by
  have hl : d.toNat < xs.length := (List.getElem?_eq_some_iff.mp k).1
  unfold atI ixN
  rw [if_pos a, if_pos (by omega)]
  exact k
theorem ix_lst {xs : List T} {d : Int} {r : T} {st : List O} (a : 0 ≤ d) (k : xs[d.toNat]? = some r) : ixT (.lst xs) (.int d) st = .ok r st := by
  have := atI_nat a k
  show (match atI xs d with
    | some t => Rs.ok t st
    | none => Rs.no) = _
  rw [this]
theorem ix_tup {xs : List T} {d : Int} {r : T} {st : List O} (a : 0 ≤ d) (k : xs[d.toNat]? = some r) : ixT (.tup xs) (.int d) st = .ok r st := by
  have := atI_nat a k
  show (match atI xs d with
    | some t => Rs.ok t st
    | none => Rs.no) = _
  rw [this]
theorem pick_lst {n : Nat} {s : SP} {X : List O} {xs : List T} (h : Ok (n + 1) s) (hX : Clo X) (hr : ∀ x ∈ xs, nrf 200 x = true) (hx : 0 < xs.length) (hl : xs.length < 1000) : ∃ (r : T) (s' : SP), drop m_l_pick [.ref 2, .lst xs] (B s X) = .ok r (B s' X) ∧ r ∈ xs ∧ Ok n s' := by
  obtain ⟨d, s', e, a, b, h1⟩ := draw_ok (r := (xs.length : Int)) h (by omega) (by omega) hX
  have k : ∃ r, xs[d.toNat]? = some r := ⟨_, List.getElem?_eq_getElem (by omega)⟩
  obtain ⟨r, k⟩ := k
  have i : ixT (.lst xs) (.int d) (B s' X) = .ok r (B s' X) := ix_lst a k
  refine ⟨r, s', drop_ok' (t := r) ?_ (hr r (List.mem_of_getElem? k)) h1.gl h1.cl hX, List.mem_of_getElem? k, h1⟩
  unfold m_l_pick
  apply def_rt
  unfold b_l_pick
  repeat' (first | ((with_reducible show _ = _); with_reducible assumption) | ((with_reducible apply e_var); rfl) | with_reducible apply e_c | with_reducible apply e_nil | with_reducible apply e_d0 | with_reducible apply e_partN | with_reducible apply s_next | with_reducible apply s_raise0 | with_reducible apply e_cons | with_reducible apply e_tup | with_reducible apply e_lst | with_reducible apply e_lstM | with_reducible apply e_op | with_reducible apply e_un | with_reducible apply e_tst | with_reducible apply e_not | with_reducible apply e_notV | with_reducible apply e_neg | with_reducible apply e_or | with_reducible apply e_and | with_reducible apply e_andV | with_reducible apply e_if | with_reducible apply e_partS | with_reducible apply e_sl | with_reducible apply e_call | with_reducible apply e_callK | with_reducible apply e_cb | with_reducible apply e_met | with_reducible apply e_chain | with_reducible apply e_meth | with_reducible apply s_seq | with_reducible apply s_expr | with_reducible apply s_ret | with_reducible apply s_if | with_reducible apply s_set | with_reducible apply s_par | with_reducible apply s_asg | with_reducible apply s_dput | with_reducible apply s_setIx | with_reducible apply s_putF | with_reducible apply s_raiseX | with_reducible apply e_ex | with_reducible apply i_ia | with_reducible apply e_tupRg | with_reducible apply i_r1 | with_reducible apply e_lc | with_reducible apply e_lcM | with_reducible apply l_ex | with_reducible apply s_for | ((with_reducible apply l_0); focus rfl) | ((with_reducible apply f_0); focus rfl) | ((with_reducible apply l_1); focus rfl) | ((with_reducible apply f_1); focus rfl) | ((with_reducible refine Or.inl ⟨?_, ?_⟩); focus (first | rfl | with_reducible assumption | ((with_reducible apply not_t); with_reducible assumption) | ((with_reducible apply not_f); with_reducible assumption) | decide)) | ((with_reducible refine Or.inr ⟨?_, ?_⟩); focus (first | rfl | with_reducible assumption | ((with_reducible apply not_t); with_reducible assumption) | ((with_reducible apply not_f); with_reducible assumption) | decide)) | ((with_reducible show addT _ _ _ = _); rfl) | ((with_reducible show subT _ _ _ = _); rfl) | ((with_reducible show mulT _ _ _ = _); rfl) | ((with_reducible show fdivT _ _ _ = _); rfl) | ((with_reducible show modT _ _ _ = _); rfl) | ((with_reducible show powT _ _ _ = _); rfl) | ((with_reducible show eqT _ _ _ = _); rfl) | ((with_reducible show neT _ _ _ = _); rfl) | ((with_reducible show ltT _ _ _ = _); rfl) | ((with_reducible show ixT _ _ _ = _); rfl) | ((with_reducible show dgetT _ _ _ = _); rfl) | ((with_reducible show cmpI _ _ _ _ = _); rfl) | ((with_reducible show isN _ _ _ _ = _); rfl) | ((with_reducible show inT _ _ _ _ = _); rfl) | ((with_reducible show dinT _ _ _ _ = _); rfl) | ((with_reducible show slT _ _ _ _ = _); rfl) | ((with_reducible show fldT _ _ _ _ = _); rfl) | ((with_reducible show xfldT _ _ _ _ = _); rfl) | ((with_reducible show popAtT _ _ _ = _); rfl) | ((with_reducible show appendT _ _ _ = _); rfl) | ((with_reducible show putO _ _ _ _ _ = _); rfl) | ((with_reducible show setT _ _ _ _ = _); rfl) | ((with_reducible show dputT _ _ _ _ = _); rfl) | ((with_reducible show insT _ _ = _); rfl) | ((with_reducible show lookF _ _ _ = _); rfl) | ((with_reducible show Nat.beq _ _ = _); rfl) | ((with_reducible show permT _ _ = _); rfl) | ((with_reducible show isL _ _ = _); rfl) | ((with_reducible show isiB _ _ _ = _); rfl) | ((with_reducible show WR.sizeOk _ = _); rfl) | ((with_reducible show List.length _ = _); rfl) | ((with_reducible show getElem? _ _ = _); rfl) | ((with_reducible show (_ :: _) = _); rfl) | ((with_reducible show (_ ++ _) = _); rfl) | ((with_reducible show dictB _ _ _ = _); rfl) | ((with_reducible show sortB _ _ _ = _); rfl) | ((with_reducible show Rs.ok _ _ = _); rfl) | ((with_reducible show RsS.ok _ _ = _); rfl) | ((with_reducible show Rs.exc _ _ = _); rfl) | ((with_reducible show RsS.exc _ _ _ = _); rfl) | ((with_reducible show srcAt _ _ _ = _); rfl) | ((with_reducible show mYes _ _ = _); rfl) | ((with_reducible show subW _ = _); rfl) | ((with_reducible show sub _ = _); rfl) | ((with_reducible show iaOf _ _ = _); rfl) | ((with_reducible show rngOk _ = _); rfl) | ((with_reducible show _ + 1 = _); rfl) | ((with_reducible show (!_) = _); rfl) | ((with_reducible show [] = _); rfl) | ((with_reducible show lenB _ _ = _); rfl) | ((with_reducible show absB _ _ = _); rfl) | ((with_reducible show intB _ _ = _); rfl) | ((with_reducible show intX _ _ = _); rfl) | ((with_reducible show anyX _ _ = _); rfl) | ((with_reducible show sumB _ _ = _); rfl) | ((with_reducible show minB _ _ = _); rfl) | ((with_reducible show maxB _ _ = _); rfl) | ((with_reducible show listB _ _ = _); rfl) | ((with_reducible show listM _ _ = _); rfl) | ((with_reducible show tupleB _ _ = _); rfl) | ((with_reducible show sortX _ _ = _); rfl) | ((with_reducible show sortY _ _ = _); rfl) | ((with_reducible show anyB _ _ _ = _); rfl) | ((with_reducible show List.length _ < 1000); first | exact of_decide_eq_true rfl | omega | (simp only [List.length_map]; omega)) | ((with_reducible show _ ≤ 16777216); first | exact of_decide_eq_true rfl | omega | (simp only [List.length_map]; omega)) | ((with_reducible show ∀ _, srcAt _ _ _ = _); exact fun _ => rfl) | ((with_reducible show agN _ _ _ = _); (simp only [agN, agT, agCons, agNil, wipeE, List.foldl, List.length_cons, List.length_nil, Nat.reduceAdd, Nat.zero_add, Nat.beq, List.set_cons_zero, List.set_cons_succ]) <;> rfl) | ((with_reducible show agT _ _ _ _ = _); (simp only [agN, agT, agCons, agNil, wipeE, List.foldl, List.length_cons, List.length_nil, Nat.reduceAdd, Nat.zero_add, Nat.beq, List.set_cons_zero, List.set_cons_succ]) <;> rfl) | ((with_reducible show List.set _ _ _ = _); (simp only [agN, agT, agCons, agNil, wipeE, List.foldl, List.length_cons, List.length_nil, Nat.reduceAdd, Nat.zero_add, Nat.beq, List.set_cons_zero, List.set_cons_succ]) <;> rfl) | ((with_reducible show wipeE _ _ = _); (simp only [agN, agT, agCons, agNil, wipeE, List.foldl, List.length_cons, List.length_nil, Nat.reduceAdd, Nat.zero_add, Nat.beq, List.set_cons_zero, List.set_cons_succ]) <;> rfl))
theorem pick_tup {n : Nat} {s : SP} {X : List O} {xs : List T} (h : Ok (n + 1) s) (hX : Clo X) (hr : ∀ x ∈ xs, nrf 200 x = true) (hx : 0 < xs.length) (hl : xs.length < 1000) : ∃ (r : T) (s' : SP), drop m_l_pick [.ref 2, .tup xs] (B s X) = .ok r (B s' X) ∧ r ∈ xs ∧ Ok n s' := by
  obtain ⟨d, s', e, a, b, h1⟩ := draw_ok (r := (xs.length : Int)) h (by omega) (by omega) hX
  have k : ∃ r, xs[d.toNat]? = some r := ⟨_, List.getElem?_eq_getElem (by omega)⟩
  obtain ⟨r, k⟩ := k
  have i : ixT (.tup xs) (.int d) (B s' X) = .ok r (B s' X) := ix_tup a k
  refine ⟨r, s', drop_ok' (t := r) ?_ (hr r (List.mem_of_getElem? k)) h1.gl h1.cl hX, List.mem_of_getElem? k, h1⟩
  unfold m_l_pick
  apply def_rt
  unfold b_l_pick
  repeat' (first | ((with_reducible show _ = _); with_reducible assumption) | ((with_reducible apply e_var); rfl) | with_reducible apply e_c | with_reducible apply e_nil | with_reducible apply e_d0 | with_reducible apply e_partN | with_reducible apply s_next | with_reducible apply s_raise0 | with_reducible apply e_cons | with_reducible apply e_tup | with_reducible apply e_lst | with_reducible apply e_lstM | with_reducible apply e_op | with_reducible apply e_un | with_reducible apply e_tst | with_reducible apply e_not | with_reducible apply e_notV | with_reducible apply e_neg | with_reducible apply e_or | with_reducible apply e_and | with_reducible apply e_andV | with_reducible apply e_if | with_reducible apply e_partS | with_reducible apply e_sl | with_reducible apply e_call | with_reducible apply e_callK | with_reducible apply e_cb | with_reducible apply e_met | with_reducible apply e_chain | with_reducible apply e_meth | with_reducible apply s_seq | with_reducible apply s_expr | with_reducible apply s_ret | with_reducible apply s_if | with_reducible apply s_set | with_reducible apply s_par | with_reducible apply s_asg | with_reducible apply s_dput | with_reducible apply s_setIx | with_reducible apply s_putF | with_reducible apply s_raiseX | with_reducible apply e_ex | with_reducible apply i_ia | with_reducible apply e_tupRg | with_reducible apply i_r1 | with_reducible apply e_lc | with_reducible apply e_lcM | with_reducible apply l_ex | with_reducible apply s_for | ((with_reducible apply l_0); focus rfl) | ((with_reducible apply f_0); focus rfl) | ((with_reducible apply l_1); focus rfl) | ((with_reducible apply f_1); focus rfl) | ((with_reducible refine Or.inl ⟨?_, ?_⟩); focus (first | rfl | with_reducible assumption | ((with_reducible apply not_t); with_reducible assumption) | ((with_reducible apply not_f); with_reducible assumption) | decide)) | ((with_reducible refine Or.inr ⟨?_, ?_⟩); focus (first | rfl | with_reducible assumption | ((with_reducible apply not_t); with_reducible assumption) | ((with_reducible apply not_f); with_reducible assumption) | decide)) | ((with_reducible show addT _ _ _ = _); rfl) | ((with_reducible show subT _ _ _ = _); rfl) | ((with_reducible show mulT _ _ _ = _); rfl) | ((with_reducible show fdivT _ _ _ = _); rfl) | ((with_reducible show modT _ _ _ = _); rfl) | ((with_reducible show powT _ _ _ = _); rfl) | ((with_reducible show eqT _ _ _ = _); rfl) | ((with_reducible show neT _ _ _ = _); rfl) | ((with_reducible show ltT _ _ _ = _); rfl) | ((with_reducible show ixT _ _ _ = _); rfl) | ((with_reducible show dgetT _ _ _ = _); rfl) | ((with_reducible show cmpI _ _ _ _ = _); rfl) | ((with_reducible show isN _ _ _ _ = _); rfl) | ((with_reducible show inT _ _ _ _ = _); rfl) | ((with_reducible show dinT _ _ _ _ = _); rfl) | ((with_reducible show slT _ _ _ _ = _); rfl) | ((with_reducible show fldT _ _ _ _ = _); rfl) | ((with_reducible show xfldT _ _ _ _ = _); rfl) | ((with_reducible show popAtT _ _ _ = _); rfl) | ((with_reducible show appendT _ _ _ = _); rfl) | ((with_reducible show putO _ _ _ _ _ = _); rfl) | ((with_reducible show setT _ _ _ _ = _); rfl) | ((with_reducible show dputT _ _ _ _ = _); rfl) | ((with_reducible show insT _ _ = _); rfl) | ((with_reducible show lookF _ _ _ = _); rfl) | ((with_reducible show Nat.beq _ _ = _); rfl) | ((with_reducible show permT _ _ = _); rfl) | ((with_reducible show isL _ _ = _); rfl) | ((with_reducible show isiB _ _ _ = _); rfl) | ((with_reducible show WR.sizeOk _ = _); rfl) | ((with_reducible show List.length _ = _); rfl) | ((with_reducible show getElem? _ _ = _); rfl) | ((with_reducible show (_ :: _) = _); rfl) | ((with_reducible show (_ ++ _) = _); rfl) | ((with_reducible show dictB _ _ _ = _); rfl) | ((with_reducible show sortB _ _ _ = _); rfl) | ((with_reducible show Rs.ok _ _ = _); rfl) | ((with_reducible show RsS.ok _ _ = _); rfl) | ((with_reducible show Rs.exc _ _ = _); rfl) | ((with_reducible show RsS.exc _ _ _ = _); rfl) | ((with_reducible show srcAt _ _ _ = _); rfl) | ((with_reducible show mYes _ _ = _); rfl) | ((with_reducible show subW _ = _); rfl) | ((with_reducible show sub _ = _); rfl) | ((with_reducible show iaOf _ _ = _); rfl) | ((with_reducible show rngOk _ = _); rfl) | ((with_reducible show _ + 1 = _); rfl) | ((with_reducible show (!_) = _); rfl) | ((with_reducible show [] = _); rfl) | ((with_reducible show lenB _ _ = _); rfl) | ((with_reducible show absB _ _ = _); rfl) | ((with_reducible show intB _ _ = _); rfl) | ((with_reducible show intX _ _ = _); rfl) | ((with_reducible show anyX _ _ = _); rfl) | ((with_reducible show sumB _ _ = _); rfl) | ((with_reducible show minB _ _ = _); rfl) | ((with_reducible show maxB _ _ = _); rfl) | ((with_reducible show listB _ _ = _); rfl) | ((with_reducible show listM _ _ = _); rfl) | ((with_reducible show tupleB _ _ = _); rfl) | ((with_reducible show sortX _ _ = _); rfl) | ((with_reducible show sortY _ _ = _); rfl) | ((with_reducible show anyB _ _ _ = _); rfl) | ((with_reducible show List.length _ < 1000); first | exact of_decide_eq_true rfl | omega | (simp only [List.length_map]; omega)) | ((with_reducible show _ ≤ 16777216); first | exact of_decide_eq_true rfl | omega | (simp only [List.length_map]; omega)) | ((with_reducible show ∀ _, srcAt _ _ _ = _); exact fun _ => rfl) | ((with_reducible show agN _ _ _ = _); (simp only [agN, agT, agCons, agNil, wipeE, List.foldl, List.length_cons, List.length_nil, Nat.reduceAdd, Nat.zero_add, Nat.beq, List.set_cons_zero, List.set_cons_succ]) <;> rfl) | ((with_reducible show agT _ _ _ _ = _); (simp only [agN, agT, agCons, agNil, wipeE, List.foldl, List.length_cons, List.length_nil, Nat.reduceAdd, Nat.zero_add, Nat.beq, List.set_cons_zero, List.set_cons_succ]) <;> rfl) | ((with_reducible show List.set _ _ _ = _); (simp only [agN, agT, agCons, agNil, wipeE, List.foldl, List.length_cons, List.length_nil, Nat.reduceAdd, Nat.zero_add, Nat.beq, List.set_cons_zero, List.set_cons_succ]) <;> rfl) | ((with_reducible show wipeE _ _ = _); (simp only [agN, agT, agCons, agNil, wipeE, List.foldl, List.length_cons, List.length_nil, Nat.reduceAdd, Nat.zero_add, Nat.beq, List.set_cons_zero, List.set_cons_succ]) <;> rfl))
/-! ### own objects at the store's end -/
theorem B_app (s : SP) (X Y : List O) : B s X ++ Y = B s (X ++ Y) := rfl
theorem B_len (s : SP) (X : List O) : (B s X).length = X.length + 3 := rfl
theorem B_get (s : SP) (X : List O) (i : Nat) : (B s X)[i + 3]? = X[i]? := rfl
theorem B_set (s : SP) (X : List O) (i : Nat) (o : O) : (B s X).set (i + 3) o = B s (X.set i o) := rfl
theorem app_get0 (X : List O) (a : O) (Y : List O) : (X ++ a :: Y)[X.length]? = some a := by simp
theorem app_get1 (X : List O) (a b : O) (Y : List O) : (X ++ a :: b :: Y)[X.length + 1]? = some b := by simp
theorem app_set0 (X : List O) (a c : O) (Y : List O) : (X ++ a :: Y).set X.length c = X ++ c :: Y := by simp
theorem app_set1 (X : List O) (a b c : O) (Y : List O) : (X ++ a :: b :: Y).set (X.length + 1) c = X ++ a :: c :: Y := by simp
theorem wh_t {c : M Bool} {body : MS} {m : Nat} {σ σ2 : Ev} {st st1 st2 : List O} (h : c σ st = .ok true st1) (k : body σ st1 = .ok (.nx σ2) st2) : whL c body (m + 1) σ st = whL c body m σ2 st2 := by
  rw [whL.eq_def]
  simp only [h, Rs.bindS, k]
theorem wh_f {c : M Bool} {body : MS} {m : Nat} {σ : Ev} {st st1 : List O} (h : c σ st = .ok false st1) : whL c body (m + 1) σ st = .ok (.nx σ) st1 := by
  rw [whL.eq_def]
  simp only [h, Rs.bindS]
end G08
namespace G08
open PySem L2 WR
theorem ne_ref {i : Nat} {xs : List T} {ds : List PyData} {st : List O} (h : st[i]? = some (.lst xs)) (p : pds st 99 xs = some ds) (c : PyData.canLayAll0 ds = true) (d : PyData.depthAll ds ≤ 63) : neT (.ref i) (.lst []) st = .ok (.bl (!(PyData.eqvAll ds []))) st := by
  have a : pd st 100 (.ref i) = some (.list ds) := by
    unfold pd
    show (match st[i]? with
      | some (.lst xs) => match pds st 99 xs with
        | some ds => some (PyData.list ds)
        | none => none
      | _ => none) = _
    rw [h]
    show (match pds st 99 xs with
        | some ds => some (PyData.list ds)
        | none => none) = _
    rw [p]
  have b : pd st 100 (.lst []) = some (.list []) := rfl
  have c : SeqAt.shaped (.list ds) = true := by
    unfold SeqAt.shaped
    rw [Bool.and_eq_true]
    refine ⟨?_, ?_⟩
    · unfold PyData.canLay0; exact c
    · apply decide_eq_true; unfold PyData.depth; omega
  have d : SeqAt.shaped (.list []) = true := rfl
  have e : PyData.eqv (.list ds) (.list []) = PyData.eqvAll ds [] := by
    rw [PyData.eqv]
  show (match eqD _ (.ref i) (.lst []) with
    | some k => Rs.ok (T.bl (!k)) _
    | none => Rs.no) = _
  unfold eqD
  simp only [a, b, c, d, e, Bool.and_self]
abbrev strsL (ss : List Str) : List T := ss.map T.str
theorem pds_strs (st : List O) : ∀ (ss : List Str) (n : Nat), ss.length + 1 < n → pds st n (strsL ss) = some (ss.map PyData.str)
  | [], n + 1, _ => by simp only [strsL, List.map_nil, pds]
  | x :: xs, n + 2, h => by
    have := pds_strs st xs (n + 1) (by simp at h; omega)
    show (match pd st (n + 1) (.str x) with
      | some d => match pds st (n + 1) (strsL xs) with
        | some ds => some (d :: ds)
        | none => none
      | none => none) = _
    rw [this]
    rfl
theorem lay_strs : ∀ {ss : List Str}, (∀ x ∈ ss, PyData.strOk x = true) → PyData.canLayAll0 (ss.map PyData.str) = true
  | [], _ => by simp only [List.map_nil, PyData.canLayAll0]
  | x :: xs, h => by simp only [List.map_cons, PyData.canLayAll0, PyData.canLay0, lay_strs fun y hy => h y (List.mem_cons_of_mem _ hy), h x (List.mem_cons_self ..), Bool.and_self]
theorem dep_strs : ∀ ss : List Str, PyData.depthAll (ss.map PyData.str) = 0
  | [] => by simp only [List.map_nil, PyData.depthAll]
  | x :: xs => by simp only [List.map_cons, PyData.depthAll, PyData.depth, dep_strs xs, Nat.max_self]
theorem nrfs_strs : ∀ (xs : List Str) (n : Nat), xs.length + 1 < n → nrfs n (strsL xs) = true
  | [], n + 1, _ => rfl
  | x :: xs, n + 2, h => by
    have := nrfs_strs xs (n + 1) (by simp at h; omega)
    simp only [strsL, List.map_cons, nrfs, nrf] at this ⊢
    exact this
theorem ne_strs {i : Nat} {ss : List Str} {st : List O} (h : st[i]? = some (.lst (strsL ss))) (hl : ss.length ≤ 63) (hs : ∀ x ∈ ss, PyData.strOk x = true) : neT (.ref i) (.lst []) st = .ok (.bl (!ss.isEmpty)) st := by
  rw [ne_ref h (pds_strs st ss 99 (by omega)) (lay_strs hs) (by rw [dep_strs]; omega)]
  cases ss with
  | nil => simp only [List.map_nil, PyData.eqvAll, List.isEmpty_nil]
  | cons x xs => simp only [List.map_cons, PyData.eqvAll, List.isEmpty_cons]
theorem popAt_own {i : Nat} {xs : List T} {d : Int} {r : T} {st : List O} (h : st[i]? = some (.lst xs)) (a : 0 ≤ d) (k : xs[d.toNat]? = some r) (hl : xs.length < 1000) : popAtT (.ref i) [.int d] st = .ok r (st.set i (.lst (xs.eraseIdx d.toNat))) := by
  have l : d.toNat < xs.length := (List.getElem?_eq_some_iff.mp k).1
  have e : seqIndex? d xs.length = some d.toNat := by
    unfold seqIndex?
    have h1 : ¬ d < 0 := by omega
    have h2 : (decide (0 ≤ d) && decide (d < (xs.length : Int))) = true := by rw [decide_eq_true a, decide_eq_true (by omega)]; rfl
    simp only [h1, if_false, h2, if_true]
  have f : (decide (-(2 ^ 63) ≤ d) && decide (d < 2 ^ 63)) = true := by rw [decide_eq_true (by omega), decide_eq_true (by omega)]; rfl
  unfold popAtT
  simp only [ownL, h, oneInt, f, e, k]
theorem append_own {i : Nat} {xs : List T} {r : T} {st : List O} (h : st[i]? = some (.lst xs)) (hl : xs.length < 1000) : appendT (.ref i) [r] st = .ok .non (st.set i (.lst (xs ++ [r]))) := by
  have f : decide (xs.length < 16777216) = true := decide_eq_true (by omega)
  unfold appendT
  simp only [ownL, h, one1, f]
theorem len_own {i : Nat} {xs : List T} {st : List O} (h : st[i]? = some (.lst xs)) : lenB [.ref i] st = .ok (.int xs.length) st := by
  unfold lenB
  simp only [one1, seqT, lstT, h]
theorem eraseIdx_map' {α β : Type} (f : α → β) : ∀ (xs : List α) (i : Nat), (xs.eraseIdx i).map f = (xs.map f).eraseIdx i
  | [], _ => rfl
  | x :: xs, 0 => rfl
  | x :: xs, i + 1 => by simp only [List.eraseIdx_cons_succ, List.map_cons, eraseIdx_map' f xs i]
theorem strs_get {ss : List Str} {i : Nat} (h : i < ss.length) : (strsL ss)[i]? = some (.str ss[i]) := by
  simp only [strsL, List.getElem?_map, List.getElem?_eq_getElem h, Option.map_some]
theorem isL_own {i : Nat} {xs : List T} {st : List O} (h : st[i]? = some (.lst xs)) : isL (.ref i) st = true := by
  unfold isL
  simp only [lstT, h, Option.isSome_some]
theorem drop_own {m : MF} {ts : List T} {s s' : SP} {X Y : List O} {i : Nat} {xs : List T} (e : m ts (B s X) = .ok (.ref (X.length + i + 3)) (B s' (X ++ Y))) (hY : Y[i]? = some (.lst xs)) (hn : nrfs 199 xs = true) (h1 : s'.great.length ≤ 63) (h2 : s'.cells.length ≤ 63) (hX : Clo X) : drop m ts (B s X) = .ok (.lst xs) (B s' X) := by
  have l : (B s X).length = X.length + 3 := rfl
  have l' : (B s' X).length = X.length + 3 := rfl
  have tk : (B s' (X ++ Y)).take (X.length + 3) = B s' X := by
    rw [← B_app, ← l']; simp
  have g : (B s' (X ++ Y))[X.length + i + 3]? = some (.lst xs) := by
    rw [B_get, List.getElem?_append_right (by omega)]
    rw [← hY]; congr 1; omega
  have c : Nat.blt (X.length + i + 3) (X.length + 3) = false := by
    cases q : Nat.blt (X.length + i + 3) (X.length + 3) with
    | false => rfl
    | true => rw [Nat.blt_eq] at q; omega
  have il : inlN (X.length + 3) (B s' (X ++ Y)) 200 (.ref (X.length + i + 3)) = some (.lst xs) := by
    have := inlNs_nrf (k := X.length + 3) (st := B s' (X ++ Y)) 199 xs hn
    unfold inlN
    simp only [c, g, this]
  show dropEnd (B s X).length (m ts (B s X)) = _
  rw [e, l]
  unfold dropEnd
  simp only [il, tk, inlOs_B _ h1 h2 hX]
/-! ### no own objects -/
mutual
theorem nrf_up : ∀ (n : Nat) (t : T), nrf n t = true → nrf (n + 1) t = true
  | 0, _, h => by simp [nrf] at h
  | n + 1, t, h => by
    cases t with
    | tup xs => simp only [nrf] at h ⊢; exact nrfs_up n xs h
    | lst xs => simp only [nrf] at h ⊢; exact nrfs_up n xs h
    | dct ks xs => simp only [nrf] at h ⊢; exact nrfs_up n xs h
    | ins c fs xs => simp only [nrf] at h ⊢; exact nrfs_up n xs h
    | exc c fs xs => simp only [nrf] at h ⊢; exact nrfs_up n xs h
    | ref i => simp [nrf] at h
    | _ => rfl
theorem nrfs_up : ∀ (n : Nat) (ts : List T), nrfs n ts = true → nrfs (n + 1) ts = true
  | 0, _, h => by simp [nrfs] at h
  | n + 1, ts, h => by
    cases ts with
    | nil => rfl
    | cons t ts =>
      simp only [nrfs] at h ⊢
      cases q : nrf n t with
      | false => rw [q] at h; cases h
      | true =>
        rw [q] at h
        rw [nrf_up n t q]
        exact nrfs_up n ts h
end
theorem nrf_mono {n m : Nat} {t : T} (h : nrf n t = true) (k : n ≤ m) : nrf m t = true := by
  induction m with
  | zero => have : n = 0 := by omega
            subst this; exact h
  | succ m ih =>
    by_cases q : n = m + 1
    · subst q; exact h
    · exact nrf_up m t (ih (by omega))
theorem nrfs_of {k : Nat} : ∀ {ts : List T} {n : Nat}, (∀ t ∈ ts, nrf k t = true) → k + ts.length < n → nrfs n ts = true
  | [], n + 1, _, _ => rfl
  | t :: ts, n + 1, h, q => by
    have q' : k + ts.length < n := by simp at q; omega
    have a : nrf n t = true := nrf_mono (h t (List.mem_cons_self ..)) (by omega)
    have b := nrfs_of (ts := ts) (n := n) (fun x hx => h x (List.mem_cons_of_mem _ hx)) q'
    simp only [nrfs, a, b]
theorem nrf_tup {n : Nat} {ts : List T} (h : nrfs n ts = true) : nrf (n + 1) (.tup ts) = true := by simp only [nrf, h]
theorem nrfs_cons {n : Nat} {t : T} {ts : List T} (h : nrf n t = true) (k : nrfs n ts = true) : nrfs (n + 1) (t :: ts) = true := by simp only [nrfs, h, k]
theorem nrfs_mono {n m : Nat} {ts : List T} (h : nrfs n ts = true) (k : n ≤ m) : nrfs m ts = true := by
  induction m with
  | zero => have : n = 0 := by omega
            subst this; exact h
  | succ m ih =>
    by_cases q : n = m + 1
    · subst q; exact h
    · exact nrfs_up m ts (ih (by omega))
end G08
namespace G08
open PySem L2 WR
/-! ### what is drawn, and that it is refused -/
abbrev nT (a b : Int) : T := .tup [.int a, .int b]
abbrev frmT (s : Str) (a c : Int) : T := .tup [.tup [.tup [.str s, nT a 1]], nT c 1]
abbrev lineT (s : Str) (a c : Int) (w : Str) : T := .tup [frmT s a c, .str w]
abbrev c0 : T := lineT "m" (-1) 0 "<="
abbrev c1 : T := lineT "m" 1 (-2) "<="
abbrev cellT : T := .tup [c0, c1]
abbrev mmT : T := .tup [.str "m"]
abbrev noMarks : List T := [.non, .tup [], .tup [.str "n", .str "m"], .tup [.str "m", .str "m"], .lst [.str "m"], .tup [.str "M"], .tup [.str "m", .str "n", .str "o", .str "p"], .tup [.str "no"], .str "m", .tup [.int 5]]
abbrev noCells : List T := [.non, .tup [], .tup [c0], .tup [c1, c0], .lst [c0, c1], .int 5, .tup [cellT], .tup [c0, c1, .non]]
abbrev noLines : List T := [.non, .lst [], .lst [c0, c1], .tup [.non], .tup [lineT "z" 1 1 "<="], .tup [lineT "m" 1 1 "="], .tup [c0, c1, c0, c1, c0, c1, c0, c1, c0, c1, c0, c1, c0, c1, c0, c1, c0, c1, c0, c1, c0, c1, c0, c1, c0, c1], .str "m", .tup []]
abbrev pT (a b c d : Int) : T := .tup [nT a b, nT c d]
abbrev noBounds : List T := [.non, .dct [] [], .dct [.inr "n"] [pT 0 1 1 1], .dct [.inr "m"] [pT 1 1 1 1], .dct [.inr "m"] [pT 2 1 1 1], .dct [.inr "m"] [nT 0 1], .dct [.inr "m"] [.tup [nT 0 1]], .dct [.inr "m"] [pT 0 1 2 2], .dct [.inr "m", .inr "n"] [pT 0 1 1 1, pT 0 1 1 1], .lst [pT 0 1 1 1]]
abbrev cutOdds : List T := [.non, .tup [], lineT "z" 1 1 "<=", lineT "m" 1 1 "<", frmT "m" 1 1]
abbrev cellsOdd (b : T) : List T := [.non, .int 5, .lst [.non], .lst [cellT, b]]
def xnB (r : Rs T) : Bool := match r with
  | .exc ⟨3, [], []⟩ _ => true
  | _ => false
def okb (r : Rs T) : Bool := match r with
  | .ok (.bl true) [] => true
  | _ => false
def exI (m : MF) (ts : List T) : Bool := nrfs 200 ts && xnB (m ts [])
theorem f0 : (noMarks.all fun a => exI m_cell_of [a, cellT]) = true := by decide +kernel
theorem f1 : (noLines.all fun a => exI m_cell_of [mmT, a]) = true := by decide +kernel
theorem f2 : (noMarks.all fun a => exI m_is_cell [a, .non]) = true := by decide +kernel
theorem f3 : (noMarks.all fun a => noBounds.all fun b => exI m_box [a, b]) = true := by decide +kernel
theorem f4 : (noBounds.all fun b => exI m_box [mmT, b]) = true := by decide +kernel
theorem f5 : (noMarks.all fun a => noCells.all fun b => exI m_corners [a, b] && exI m_inner [a, b] && exI m_volume [a, b]) = true := by decide +kernel
theorem f6 : (noCells.all fun b => exI m_corners [mmT, b] && exI m_inner [mmT, b] && exI m_volume [mmT, b]) = true := by decide +kernel
theorem f7 : (exI m_corners [.tup [.str "n"], cellT] && exI m_inner [.tup [.str "n"], cellT] && exI m_volume [.tup [.str "n"], cellT]) = true := by decide +kernel
theorem f8 : (noMarks.all fun a => noCells.all fun b => exI m_meet [a, b, b] && exI m_without [a, b, b]) = true := by decide +kernel
theorem f9 : (noCells.all fun b => exI m_meet [mmT, b, cellT] && exI m_without [mmT, b, cellT]) = true := by decide +kernel
theorem f10 : (noCells.all fun b => exI m_meet [mmT, cellT, b] && exI m_without [mmT, cellT, b]) = true := by decide +kernel
theorem f11 : (noMarks.all fun a => exI m_cut [a, cellT, .non]) = true := by decide +kernel
theorem f12 : (noCells.all fun b => exI m_cut [mmT, b, .non]) = true := by decide +kernel
theorem f13 : (cutOdds.all fun b => exI m_cut [mmT, cellT, b]) = true := by decide +kernel
theorem f14 : (noMarks.all fun a => exI m_are_apart [a, .lst []]) = true := by decide +kernel
theorem f15 : (noCells.all fun b => (cellsOdd b).all fun o => exI m_are_apart [mmT, o]) = true := by decide +kernel
theorem f16 : (noMarks.all fun a => exI m_fills [a, cellT, .lst []]) = true := by decide +kernel
theorem f17 : (noCells.all fun b => exI m_fills [mmT, b, .lst []]) = true := by decide +kernel
theorem f18 : (noCells.all fun b => (cellsOdd b).all fun o => exI m_fills [mmT, cellT, o]) = true := by decide +kernel
theorem g1 : okb (m_fills [mmT, cellT, .tup [cellT]] []) = true := by decide +kernel
theorem g2 : okb (m_are_apart [mmT, .tup []] []) = true := by decide +kernel
end G08
namespace G08
open PySem L2 WR
/-! ### one word after another -/
theorem iso_no {m : MF} {ts : List T} {st : List O} (h : exI m ts = true) : iso m ts st = .exc ⟨3, [], []⟩ st := by
  unfold exI at h
  obtain ⟨h1, h2⟩ := Bool.and_eq_true_iff.mp h
  unfold iso
  rw [noRefs_of h1]
  simp only
  unfold xnB at h2
  split at h2
  · rename_i stc e
    rw [e]
    show (match isoOks [] stc with
      | some vs => _
      | none => _) = _
    have : isoOks [] stc = some [] := by
      cases stc with
      | nil => rfl
      | cons o os => rfl
    rw [this]
  · cases h2
theorem e_callF {i j n : Nat} {tbl : Nat → Option (Nat × MF)} {m : MF} {args : M (List T)} {ts : List T} {σ : Ev} {st st1 : List O} {r : Rs T} (h : σ[i]? = some (some (.fn j))) (k : tbl j = some (n, m)) (a : args σ st = .ok ts st1) (l : ts.length = n) (q : iso m ts st1 = r) : mCallF i tbl args σ st = r := by
  unfold mCallF
  rw [e_var h]
  show (match tbl j with
    | some (n, m) => _
    | none => _) = _
  rw [k]
  simp only
  rw [a]
  show (match Nat.beq ts.length n with
    | true => _
    | false => _) = _
  rw [l, Nat.beq_refl]
  exact q
abbrev cs (k : Nat) : List T := List.replicate k (.str "cell")
abbrev Wd (s : SP) (X : List O) (k : Nat) : List O := B s (X ++ [.lst (cs k)])
abbrev wd (j : Nat) : ME := mWordV subW lamM 5 1 b_l_word (mLam 0 0 j)
abbrev ap (j : Nat) : MS := mExpr (mMet isL appendT (mVar 9) (mCons (wd j) mNil))
theorem rest_ok (j : Nat) (st : List O) : restK 5 1 b_l_word (.lam j) (.exc 3 [] []) st = .ok (.str "cell") st := rfl
theorem wd_ok {j : Nat} {σ : Ev} {s : SP} {X : List O} {st2 : List O} (h : lamM j σ (B s X) = .exc ⟨3, [], []⟩ st2) : wd j σ (B s X) = .ok (.str "cell") st2 := by
  unfold wd mWordV
  rw [show mLam 0 0 j σ (B s X) = .ok (.lam j) (B s X) from rfl]
  show (caughtK subW lamM σ (.lam j) (B s X)).bind _ = _
  unfold caughtK
  simp only [h]
  exact rest_ok j st2
theorem ap_ok {j k : Nat} {σ : Ev} {s s' : SP} {X : List O} (hw : σ[9]? = some (some (.ref (X.length + 3)))) (hk : k < 1000) (h : lamM j σ (Wd s X k) = .exc ⟨3, [], []⟩ (Wd s' X k)) : ap j σ (Wd s X k) = .ok (.nx σ) (Wd s' X (k + 1)) := by
  have g : ∀ s : SP, (Wd s X k)[X.length + 3]? = some (.lst (cs k)) := fun s => by rw [B_get]; exact app_get0 X _ []
  have a := append_own (r := .str "cell") (g s') (by simpa using hk)
  have e : (Wd s' X k).set (X.length + 3) (.lst (cs k ++ [.str "cell"])) = Wd s' X (k + 1) := by
    rw [B_set, app_set0]
    have : cs k ++ [T.str "cell"] = cs (k + 1) := List.replicate_succ'.symm
    rw [this]
  rw [e] at a
  exact s_expr (e_met (e_var hw) (isL_own (g s)) (e_cons (wd_ok h) e_nil) a)
section
variable {σ : Ev} {st : List O} {a b l d : T}
theorem L0 (ha : a ∈ noMarks) (h3 : σ[3]? = some (some a)) (h4 : σ[4]? = some (some cellT)) : lamM 0 σ st = .exc ⟨3, [], []⟩ st := by
  show mCall 2 (iso m_cell_of) [] (mCons (mVar 3) (mCons (mVar 4) mNil)) σ st = _
  exact e_call (e_cons (e_var h3) (e_cons (e_var h4) e_nil)) rfl (iso_no (List.all_eq_true.mp f0 a ha))
theorem e_mm : mTup (mCons (mC (.str "m")) mNil) σ st = .ok mmT st := rfl
theorem e_nn : mTup (mCons (mC (.str "n")) mNil) σ st = .ok (.tup [.str "n"]) st := rfl
theorem e_l0 : mLst mNil σ st = .ok (.lst []) st := rfl
theorem L1 (hl : l ∈ noLines) (h6 : σ[6]? = some (some l)) : lamM 1 σ st = .exc ⟨3, [], []⟩ st := by
  show mCall 2 (iso m_cell_of) [] (mCons (mTup (mCons (mC (.str "m")) mNil)) (mCons (mVar 6) mNil)) σ st = _
  exact e_call (e_cons e_mm (e_cons (e_var h6) e_nil)) rfl (iso_no (List.all_eq_true.mp f1 l hl))
theorem L2' (ha : a ∈ noMarks) (h3 : σ[3]? = some (some a)) : lamM 2 σ st = .exc ⟨3, [], []⟩ st := by
  show mCall 2 (iso m_is_cell) [] (mCons (mVar 3) (mCons (mC .non) mNil)) σ st = _
  exact e_call (e_cons (e_var h3) (e_cons e_c e_nil)) rfl (iso_no (List.all_eq_true.mp f2 a ha))
theorem L3 (ha : a ∈ noMarks) (hd : d ∈ noBounds) (h3 : σ[3]? = some (some a)) (h8 : σ[8]? = some (some d)) : lamM 3 σ st = .exc ⟨3, [], []⟩ st := by
  show mCall 2 (iso m_box) [] (mCons (mVar 3) (mCons (mVar 8) mNil)) σ st = _
  exact e_call (e_cons (e_var h3) (e_cons (e_var h8) e_nil)) rfl (iso_no (List.all_eq_true.mp (List.all_eq_true.mp f3 a ha) d hd))
theorem L4 (hd : d ∈ noBounds) (h8 : σ[8]? = some (some d)) : lamM 4 σ st = .exc ⟨3, [], []⟩ st := by
  show mCall 2 (iso m_box) [] (mCons (mTup (mCons (mC (.str "m")) mNil)) (mCons (mVar 8) mNil)) σ st = _
  exact e_call (e_cons e_mm (e_cons (e_var h8) e_nil)) rfl (iso_no (List.all_eq_true.mp f4 d hd))
theorem three {x y z : Bool} (h : (x && y && z) = true) : x = true ∧ y = true ∧ z = true := by
  cases x <;> cases y <;> cases z <;> simp_all
theorem two' {x y : Bool} (h : (x && y) = true) : x = true ∧ y = true := Bool.and_eq_true_iff.mp h
theorem L5 {i : Nat} (hi : i < 3) (ha : a ∈ noMarks) (hb : b ∈ noCells) (h3 : σ[3]? = some (some a)) (h5 : σ[5]? = some (some b)) (h : σ[10]? = some (some (.fn i))) : lamM 5 σ st = .exc ⟨3, [], []⟩ st := by
  show mCallF 10 tblF (mCons (mVar 3) (mCons (mVar 5) mNil)) σ st = _
  obtain ⟨q1, q2, q3⟩ := three (List.all_eq_true.mp (List.all_eq_true.mp f5 a ha) b hb)
  match i, hi with
  | 0, _ => exact e_callF (n := 2) h rfl (e_cons (e_var h3) (e_cons (e_var h5) e_nil)) rfl (iso_no q1)
  | 1, _ => exact e_callF (n := 2) h rfl (e_cons (e_var h3) (e_cons (e_var h5) e_nil)) rfl (iso_no q2)
  | 2, _ => exact e_callF (n := 2) h rfl (e_cons (e_var h3) (e_cons (e_var h5) e_nil)) rfl (iso_no q3)
theorem L6 {i : Nat} (hi : i < 3) (hb : b ∈ noCells) (h5 : σ[5]? = some (some b)) (h : σ[10]? = some (some (.fn i))) : lamM 6 σ st = .exc ⟨3, [], []⟩ st := by
  show mCallF 10 tblF (mCons (mTup (mCons (mC (.str "m")) mNil)) (mCons (mVar 5) mNil)) σ st = _
  obtain ⟨q1, q2, q3⟩ := three (List.all_eq_true.mp f6 b hb)
  match i, hi with
  | 0, _ => exact e_callF (n := 2) h rfl (e_cons e_mm (e_cons (e_var h5) e_nil)) rfl (iso_no q1)
  | 1, _ => exact e_callF (n := 2) h rfl (e_cons e_mm (e_cons (e_var h5) e_nil)) rfl (iso_no q2)
  | 2, _ => exact e_callF (n := 2) h rfl (e_cons e_mm (e_cons (e_var h5) e_nil)) rfl (iso_no q3)
theorem L7 {i : Nat} (hi : i < 3) (h4 : σ[4]? = some (some cellT)) (h : σ[10]? = some (some (.fn i))) : lamM 7 σ st = .exc ⟨3, [], []⟩ st := by
  show mCallF 10 tblF (mCons (mTup (mCons (mC (.str "n")) mNil)) (mCons (mVar 4) mNil)) σ st = _
  obtain ⟨q1, q2, q3⟩ := three f7
  match i, hi with
  | 0, _ => exact e_callF (n := 2) h rfl (e_cons e_nn (e_cons (e_var h4) e_nil)) rfl (iso_no q1)
  | 1, _ => exact e_callF (n := 2) h rfl (e_cons e_nn (e_cons (e_var h4) e_nil)) rfl (iso_no q2)
  | 2, _ => exact e_callF (n := 2) h rfl (e_cons e_nn (e_cons (e_var h4) e_nil)) rfl (iso_no q3)
theorem L8 {i : Nat} (hi : i = 3 ∨ i = 4) (ha : a ∈ noMarks) (hb : b ∈ noCells) (h3 : σ[3]? = some (some a)) (h5 : σ[5]? = some (some b)) (h : σ[10]? = some (some (.fn i))) : lamM 8 σ st = .exc ⟨3, [], []⟩ st := by
  show mCallF 10 tblF (mCons (mVar 3) (mCons (mVar 5) (mCons (mVar 5) mNil))) σ st = _
  obtain ⟨q1, q2⟩ := two' (List.all_eq_true.mp (List.all_eq_true.mp f8 a ha) b hb)
  rcases hi with rfl | rfl
  · exact e_callF (n := 3) h rfl (e_cons (e_var h3) (e_cons (e_var h5) (e_cons (e_var h5) e_nil))) rfl (iso_no q1)
  · exact e_callF (n := 3) h rfl (e_cons (e_var h3) (e_cons (e_var h5) (e_cons (e_var h5) e_nil))) rfl (iso_no q2)
theorem L9 {i : Nat} (hi : i = 3 ∨ i = 4) (hb : b ∈ noCells) (h4 : σ[4]? = some (some cellT)) (h5 : σ[5]? = some (some b)) (h : σ[10]? = some (some (.fn i))) : lamM 9 σ st = .exc ⟨3, [], []⟩ st := by
  show mCallF 10 tblF (mCons (mTup (mCons (mC (.str "m")) mNil)) (mCons (mVar 5) (mCons (mVar 4) mNil))) σ st = _
  obtain ⟨q1, q2⟩ := two' (List.all_eq_true.mp f9 b hb)
  rcases hi with rfl | rfl
  · exact e_callF (n := 3) h rfl (e_cons e_mm (e_cons (e_var h5) (e_cons (e_var h4) e_nil))) rfl (iso_no q1)
  · exact e_callF (n := 3) h rfl (e_cons e_mm (e_cons (e_var h5) (e_cons (e_var h4) e_nil))) rfl (iso_no q2)
theorem L10 {i : Nat} (hi : i = 3 ∨ i = 4) (hb : b ∈ noCells) (h4 : σ[4]? = some (some cellT)) (h5 : σ[5]? = some (some b)) (h : σ[10]? = some (some (.fn i))) : lamM 10 σ st = .exc ⟨3, [], []⟩ st := by
  show mCallF 10 tblF (mCons (mTup (mCons (mC (.str "m")) mNil)) (mCons (mVar 4) (mCons (mVar 5) mNil))) σ st = _
  obtain ⟨q1, q2⟩ := two' (List.all_eq_true.mp f10 b hb)
  rcases hi with rfl | rfl
  · exact e_callF (n := 3) h rfl (e_cons e_mm (e_cons (e_var h4) (e_cons (e_var h5) e_nil))) rfl (iso_no q1)
  · exact e_callF (n := 3) h rfl (e_cons e_mm (e_cons (e_var h4) (e_cons (e_var h5) e_nil))) rfl (iso_no q2)
theorem L11 (ha : a ∈ noMarks) (h3 : σ[3]? = some (some a)) (h4 : σ[4]? = some (some cellT)) : lamM 11 σ st = .exc ⟨3, [], []⟩ st := by
  show mCall 3 (iso m_cut) [] (mCons (mVar 3) (mCons (mVar 4) (mCons (mC .non) mNil))) σ st = _
  exact e_call (e_cons (e_var h3) (e_cons (e_var h4) (e_cons e_c e_nil))) rfl (iso_no (List.all_eq_true.mp f11 a ha))
theorem L12 (hb : b ∈ noCells) (h5 : σ[5]? = some (some b)) : lamM 12 σ st = .exc ⟨3, [], []⟩ st := by
  show mCall 3 (iso m_cut) [] (mCons (mTup (mCons (mC (.str "m")) mNil)) (mCons (mVar 5) (mCons (mC .non) mNil))) σ st = _
  exact e_call (e_cons e_mm (e_cons (e_var h5) (e_cons e_c e_nil))) rfl (iso_no (List.all_eq_true.mp f12 b hb))
theorem L14 (ha : a ∈ noMarks) (h3 : σ[3]? = some (some a)) : lamM 14 σ st = .exc ⟨3, [], []⟩ st := by
  show mCall 2 (iso m_are_apart) [] (mCons (mVar 3) (mCons (mLst mNil) mNil)) σ st = _
  exact e_call (e_cons (e_var h3) (e_cons e_l0 e_nil)) rfl (iso_no (List.all_eq_true.mp f14 a ha))
theorem L16 (ha : a ∈ noMarks) (h3 : σ[3]? = some (some a)) (h4 : σ[4]? = some (some cellT)) : lamM 16 σ st = .exc ⟨3, [], []⟩ st := by
  show mCall 3 (iso m_fills) [] (mCons (mVar 3) (mCons (mVar 4) (mCons (mLst mNil) mNil))) σ st = _
  exact e_call (e_cons (e_var h3) (e_cons (e_var h4) (e_cons e_l0 e_nil))) rfl (iso_no (List.all_eq_true.mp f16 a ha))
theorem L17 (hb : b ∈ noCells) (h5 : σ[5]? = some (some b)) : lamM 17 σ st = .exc ⟨3, [], []⟩ st := by
  show mCall 3 (iso m_fills) [] (mCons (mTup (mCons (mC (.str "m")) mNil)) (mCons (mVar 5) (mCons (mLst mNil) mNil))) σ st = _
  exact e_call (e_cons e_mm (e_cons (e_var h5) (e_cons e_l0 e_nil))) rfl (iso_no (List.all_eq_true.mp f17 b hb))
end
end G08
namespace G08
open PySem L2 WR
/-! ### words for which is drawn -/
theorem lz : m_l_line [.tup [.str "z"], .lst [.int 1, .int 1]] [] = .ok (lineT "z" 1 1 "<=") [] := by rfl
theorem fm : m_l_form [.tup [.str "m"], .lst [.int 1, .int 1]] [] = .ok (frmT "m" 1 1) [] := by rfl
theorem lz' (st : List O) : iso m_l_line [.tup [.str "z"], .lst [.int 1, .int 1]] st = .ok (lineT "z" 1 1 "<=") st := iso_ok (by rfl) lz
theorem fm' (st : List O) : iso m_l_form [.tup [.str "m"], .lst [.int 1, .int 1]] st = .ok (frmT "m" 1 1) st := iso_ok (by rfl) fm
theorem nrf_all {xs : List T} (h : (xs.all fun x => nrf 200 x) = true) : ∀ x ∈ xs, nrf 200 x = true := List.all_eq_true.mp h
theorem n13 : (cutOdds.all fun x => nrf 200 x) = true := by decide +kernel
theorem n15 : (noCells.all fun b => (cellsOdd b).all fun x => nrf 200 x) = true := by decide +kernel
abbrev lst11 : ME := mLst (mCons (mC (.int 1)) (mCons (mC (.int 1)) mNil))
theorem e_11 {σ : Ev} {st : List O} : mLst (mCons (mC (.int 1)) (mCons (mC (.int 1)) mNil)) σ st = .ok (.lst [.int 1, .int 1]) st := rfl
theorem e_zz {σ : Ev} {st : List O} : mTup (mCons (mC (.str "z")) mNil) σ st = .ok (.tup [.str "z"]) st := rfl
section
variable {σ : Ev} {n : Nat} {s : SP} {X : List O} {b : T}
theorem c13 (h4 : σ[4]? = some (some cellT)) {st : List O} : (mLst (mCons (mC .non) (mCons (mTup mNil) (mCons (mCall 2 (iso m_l_line) [] (mCons (mTup (mCons (mC (.str "z")) mNil)) (mCons (mLst (mCons (mC (.int 1)) (mCons (mC (.int 1)) mNil))) mNil))) (mCons (mTup (mCons (mCall 2 (iso m_l_form) [] (mCons (mTup (mCons (mC (.str "m")) mNil)) (mCons (mLst (mCons (mC (.int 1)) (mCons (mC (.int 1)) mNil))) mNil))) (mCons (mC (.str "<")) mNil))) (mCons (mCall 2 (iso m_l_form) [] (mCons (mTup (mCons (mC (.str "m")) mNil)) (mCons (mLst (mCons (mC (.int 1)) (mCons (mC (.int 1)) mNil))) mNil))) mNil)))))) σ st = .ok (.lst cutOdds) st := by
  have a1 : mCall 2 (iso m_l_line) [] (mCons (mTup (mCons (mC (.str "z")) mNil)) (mCons (mLst (mCons (mC (.int 1)) (mCons (mC (.int 1)) mNil))) mNil)) σ st = .ok (lineT "z" 1 1 "<=") st := e_call (e_cons e_zz (e_cons e_11 e_nil)) rfl (lz' st)
  have a2 : mCall 2 (iso m_l_form) [] (mCons (mTup (mCons (mC (.str "m")) mNil)) (mCons (mLst (mCons (mC (.int 1)) (mCons (mC (.int 1)) mNil))) mNil)) σ st = .ok (frmT "m" 1 1) st := e_call (e_cons e_mm (e_cons e_11 e_nil)) rfl (fm' st)
  exact e_lst (e_cons e_c (e_cons (e_tup e_nil rfl) (e_cons a1 (e_cons (e_tup (e_cons a2 (e_cons e_c e_nil)) rfl) (e_cons a2 e_nil))))) rfl
theorem L13 (h : Ok (n + 1) s) (hX : Clo X) (h1 : σ[1]? = some (some (.ref 2))) (h4 : σ[4]? = some (some cellT)) : ∃ s', lamM 13 σ (B s X) = .exc ⟨3, [], []⟩ (B s' X) ∧ Ok n s' := by
  obtain ⟨r, s', e, hr, h'⟩ := pick_lst (xs := cutOdds) h hX (nrf_all n13) (by simp) (by simp)
  refine ⟨s', ?_, h'⟩
  exact e_call (e_cons e_mm (e_cons (e_var h4) (e_cons (e_call (e_cons (e_var h1) (e_cons (c13 h4) e_nil)) rfl e) e_nil))) rfl (iso_no (List.all_eq_true.mp f13 r hr))
theorem c15 (h4 : σ[4]? = some (some cellT)) (h5 : σ[5]? = some (some b)) {st : List O} : mLst (mCons (mC .non) (mCons (mC (.int 5)) (mCons (mLst (mCons (mC .non) mNil)) (mCons (mLst (mCons (mVar 4) (mCons (mVar 5) mNil))) mNil)))) σ st = .ok (.lst (cellsOdd b)) st :=
  e_lst (e_cons e_c (e_cons e_c (e_cons (e_lst (e_cons e_c e_nil) rfl) (e_cons (e_lst (e_cons (e_var h4) (e_cons (e_var h5) e_nil)) rfl) e_nil)))) rfl
theorem L15 (h : Ok (n + 1) s) (hX : Clo X) (hb : b ∈ noCells) (h1 : σ[1]? = some (some (.ref 2))) (h4 : σ[4]? = some (some cellT)) (h5 : σ[5]? = some (some b)) : ∃ s', lamM 15 σ (B s X) = .exc ⟨3, [], []⟩ (B s' X) ∧ Ok n s' := by
  obtain ⟨r, s', e, hr, h'⟩ := pick_lst (xs := cellsOdd b) h hX (nrf_all (List.all_eq_true.mp n15 b hb)) (by simp) (by simp)
  refine ⟨s', ?_, h'⟩
  exact e_call (e_cons e_mm (e_cons (e_call (e_cons (e_var h1) (e_cons (c15 h4 h5) e_nil)) rfl e) e_nil)) rfl (iso_no (List.all_eq_true.mp (List.all_eq_true.mp f15 b hb) r hr))
theorem L18 (h : Ok (n + 1) s) (hX : Clo X) (hb : b ∈ noCells) (h1 : σ[1]? = some (some (.ref 2))) (h4 : σ[4]? = some (some cellT)) (h5 : σ[5]? = some (some b)) : ∃ s', lamM 18 σ (B s X) = .exc ⟨3, [], []⟩ (B s' X) ∧ Ok n s' := by
  obtain ⟨r, s', e, hr, h'⟩ := pick_lst (xs := cellsOdd b) h hX (nrf_all (List.all_eq_true.mp n15 b hb)) (by simp) (by simp)
  refine ⟨s', ?_, h'⟩
  exact e_call (e_cons e_mm (e_cons (e_var h4) (e_cons (e_call (e_cons (e_var h1) (e_cons (c15 h4 h5) e_nil)) rfl e) e_nil))) rfl (iso_no (List.all_eq_true.mp (List.all_eq_true.mp f18 b hb) r hr))
end
end G08
namespace G08
open PySem L2 WR
/-! ### one lap of the law -/
abbrev lw0 : MS := (mSet 3 (mCall 2 (drop m_l_pick) [] (mCons (mVar 1) (mCons (mLst (mCons (mC .non) (mCons (mTup mNil) (mCons (mTup (mCons (mC (.str "n")) (mCons (mC (.str "m")) mNil))) (mCons (mTup (mCons (mC (.str "m")) (mCons (mC (.str "m")) mNil))) (mCons (mLst (mCons (mC (.str "m")) mNil)) (mCons (mTup (mCons (mC (.str "M")) mNil)) (mCons (mTup (mCons (mC (.str "m")) (mCons (mC (.str "n")) (mCons (mC (.str "o")) (mCons (mC (.str "p")) mNil))))) (mCons (mTup (mCons (mC (.str "no")) mNil)) (mCons (mC (.str "m")) (mCons (mTup (mCons (mC (.int 5)) mNil)) mNil))))))))))) mNil))))
abbrev lw1 : MS := (mSet 4 (mCall 2 (iso m_box) [] (mCons (mTup (mCons (mC (.str "m")) mNil)) (mCons (mDisp false (mPc (mC (.str "m")) (mTup (mCons (mTup (mCons (mC (.int 0)) (mCons (mC (.int 1)) mNil))) (mCons (mTup (mCons (mC (.int 2)) (mCons (mC (.int 1)) mNil))) mNil))) mP0)) mNil))))
abbrev lw2 : MS := (mSet 5 (mCall 2 (drop m_l_pick) [] (mCons (mVar 1) (mCons (mLst (mCons (mC .non) (mCons (mTup mNil) (mCons (mSl (mVar 4) none (some (mC (.int 1)))) (mCons (mRevT (mVar 4)) (mCons (mCB listB (mCons (mVar 4) mNil)) (mCons (mC (.int 5)) (mCons (mTup (mCons (mVar 4) mNil)) (mCons (mOp addT (mVar 4) (mTup (mCons (mC .non) mNil))) mNil))))))))) mNil))))
abbrev lw3 : MS := (mSet 6 (mCall 2 (drop m_l_pick) [] (mCons (mVar 1) (mCons (mLst (mCons (mC .non) (mCons (mLst mNil) (mCons (mCB listB (mCons (mVar 4) mNil)) (mCons (mTup (mCons (mC .non) mNil)) (mCons (mTup (mCons (mCall 2 (iso m_l_line) [] (mCons (mTup (mCons (mC (.str "z")) mNil)) (mCons (mLst (mCons (mC (.int 1)) (mCons (mC (.int 1)) mNil))) mNil))) mNil)) (mCons (mTup (mCons (mTup (mCons (mCall 2 (iso m_l_form) [] (mCons (mTup (mCons (mC (.str "m")) mNil)) (mCons (mLst (mCons (mC (.int 1)) (mCons (mC (.int 1)) mNil))) mNil))) (mCons (mC (.str "=")) mNil))) mNil)) (mCons (mOp mulT (mVar 4) (mC (.int 13))) (mCons (mC (.str "m")) (mCons (mTup mNil) mNil)))))))))) mNil))))
abbrev lw4 : MS := (mSet 7 (mLst (mCons (mC .non) (mCons (mD0 false) (mCons (mDisp false (mPc (mC (.str "n")) (mTup (mCons (mTup (mCons (mC (.int 0)) (mCons (mC (.int 1)) mNil))) (mCons (mTup (mCons (mC (.int 1)) (mCons (mC (.int 1)) mNil))) mNil))) mP0)) (mCons (mDisp false (mPc (mC (.str "m")) (mTup (mCons (mTup (mCons (mC (.int 1)) (mCons (mC (.int 1)) mNil))) (mCons (mTup (mCons (mC (.int 1)) (mCons (mC (.int 1)) mNil))) mNil))) mP0)) (mCons (mDisp false (mPc (mC (.str "m")) (mTup (mCons (mTup (mCons (mC (.int 2)) (mCons (mC (.int 1)) mNil))) (mCons (mTup (mCons (mC (.int 1)) (mCons (mC (.int 1)) mNil))) mNil))) mP0)) (mCons (mDisp false (mPc (mC (.str "m")) (mTup (mCons (mC (.int 0)) (mCons (mC (.int 1)) mNil))) mP0)) (mCons (mDisp false (mPc (mC (.str "m")) (mTup (mCons (mTup (mCons (mC (.int 0)) (mCons (mC (.int 1)) mNil))) mNil)) mP0)) (mCons (mDisp false (mPc (mC (.str "m")) (mTup (mCons (mTup (mCons (mC (.int 0)) (mCons (mC (.int 1)) mNil))) (mCons (mTup (mCons (mC (.int 2)) (mCons (mC (.int 2)) mNil))) mNil))) mP0)) mNil))))))))))
abbrev lw5 : MS := (mSet 8 (mCall 2 (drop m_l_pick) [] (mCons (mVar 1) (mCons (mOp addT (mVar 7) (mLst (mCons (mDisp false (mPc (mC (.str "m")) (mTup (mCons (mTup (mCons (mC (.int 0)) (mCons (mC (.int 1)) mNil))) (mCons (mTup (mCons (mC (.int 1)) (mCons (mC (.int 1)) mNil))) mNil))) (mPc (mC (.str "n")) (mTup (mCons (mTup (mCons (mC (.int 0)) (mCons (mC (.int 1)) mNil))) (mCons (mTup (mCons (mC (.int 1)) (mCons (mC (.int 1)) mNil))) mNil))) mP0))) (mCons (mLst (mCons (mTup (mCons (mTup (mCons (mC (.int 0)) (mCons (mC (.int 1)) mNil))) (mCons (mTup (mCons (mC (.int 1)) (mCons (mC (.int 1)) mNil))) mNil))) mNil)) mNil)))) mNil))))
abbrev lw6 : MS := (mSet 9 (mLstM (mCons (mWordV subW lamM 5 1 b_l_word (mLam 0 0 0)) mNil)))
abbrev lw7 : MS := (mExpr (mMet isL appendT (mVar 9) (mCons (mWordV subW lamM 5 1 b_l_word (mLam 0 0 1)) mNil)))
abbrev lw8 : MS := (mExpr (mMet isL appendT (mVar 9) (mCons (mWordV subW lamM 5 1 b_l_word (mLam 0 0 2)) mNil)))
abbrev lw9 : MS := (mExpr (mMet isL appendT (mVar 9) (mCons (mWordV subW lamM 5 1 b_l_word (mLam 0 0 3)) mNil)))
abbrev lw10 : MS := (mExpr (mMet isL appendT (mVar 9) (mCons (mWordV subW lamM 5 1 b_l_word (mLam 0 0 4)) mNil)))
abbrev lw11 : MS := (mFor (mIA (mLst (mCons (mC (.fn 0)) (mCons (mC (.fn 1)) (mCons (mC (.fn 2)) mNil))))) (agN 10) (mSeq (mExpr (mMet isL appendT (mVar 9) (mCons (mWordV subW lamM 5 1 b_l_word (mLam 0 0 5)) mNil))) (mSeq (mExpr (mMet isL appendT (mVar 9) (mCons (mWordV subW lamM 5 1 b_l_word (mLam 0 0 6)) mNil))) (mExpr (mMet isL appendT (mVar 9) (mCons (mWordV subW lamM 5 1 b_l_word (mLam 0 0 7)) mNil))))))
abbrev lw11_0 : MS := (mExpr (mMet isL appendT (mVar 9) (mCons (mWordV subW lamM 5 1 b_l_word (mLam 0 0 5)) mNil)))
abbrev lw11_1 : MS := (mExpr (mMet isL appendT (mVar 9) (mCons (mWordV subW lamM 5 1 b_l_word (mLam 0 0 6)) mNil)))
abbrev lw11_2 : MS := (mExpr (mMet isL appendT (mVar 9) (mCons (mWordV subW lamM 5 1 b_l_word (mLam 0 0 7)) mNil)))
abbrev lw12 : MS := (mFor (mIA (mLst (mCons (mC (.fn 3)) (mCons (mC (.fn 4)) mNil)))) (agN 10) (mSeq (mExpr (mMet isL appendT (mVar 9) (mCons (mWordV subW lamM 5 1 b_l_word (mLam 0 0 8)) mNil))) (mSeq (mExpr (mMet isL appendT (mVar 9) (mCons (mWordV subW lamM 5 1 b_l_word (mLam 0 0 9)) mNil))) (mExpr (mMet isL appendT (mVar 9) (mCons (mWordV subW lamM 5 1 b_l_word (mLam 0 0 10)) mNil))))))
abbrev lw12_0 : MS := (mExpr (mMet isL appendT (mVar 9) (mCons (mWordV subW lamM 5 1 b_l_word (mLam 0 0 8)) mNil)))
abbrev lw12_1 : MS := (mExpr (mMet isL appendT (mVar 9) (mCons (mWordV subW lamM 5 1 b_l_word (mLam 0 0 9)) mNil)))
abbrev lw12_2 : MS := (mExpr (mMet isL appendT (mVar 9) (mCons (mWordV subW lamM 5 1 b_l_word (mLam 0 0 10)) mNil)))
abbrev lw13 : MS := (mExpr (mMet isL appendT (mVar 9) (mCons (mWordV subW lamM 5 1 b_l_word (mLam 0 0 11)) mNil)))
abbrev lw14 : MS := (mExpr (mMet isL appendT (mVar 9) (mCons (mWordV subW lamM 5 1 b_l_word (mLam 0 0 12)) mNil)))
abbrev lw15 : MS := (mExpr (mMet isL appendT (mVar 9) (mCons (mWordV subW lamM 5 1 b_l_word (mLam 0 0 13)) mNil)))
abbrev lw16 : MS := (mExpr (mMet isL appendT (mVar 9) (mCons (mWordV subW lamM 5 1 b_l_word (mLam 0 0 14)) mNil)))
abbrev lw17 : MS := (mExpr (mMet isL appendT (mVar 9) (mCons (mWordV subW lamM 5 1 b_l_word (mLam 0 0 15)) mNil)))
abbrev lw18 : MS := (mExpr (mMet isL appendT (mVar 9) (mCons (mWordV subW lamM 5 1 b_l_word (mLam 0 0 16)) mNil)))
abbrev lw19 : MS := (mExpr (mMet isL appendT (mVar 9) (mCons (mWordV subW lamM 5 1 b_l_word (mLam 0 0 17)) mNil)))
abbrev lw20 : MS := (mExpr (mMet isL appendT (mVar 9) (mCons (mWordV subW lamM 5 1 b_l_word (mLam 0 0 18)) mNil)))
abbrev lw21 : MS := (mIfS (mOr (mTst (mOp neT (mVar 9) (mOp mulT (mLst (mCons (mC (.str "cell")) mNil)) (mCB lenB (mCons (mVar 9) mNil))))) (mTst (mOp neT (mVar 4) (mCall 2 (iso m_box) [] (mCons (mTup (mCons (mC (.str "m")) mNil)) (mCons (mDisp false (mPc (mC (.str "m")) (mTup (mCons (mTup (mCons (mC (.int 0)) (mCons (mC (.int 1)) mNil))) (mCons (mTup (mCons (mC (.int 2)) (mCons (mC (.int 1)) mNil))) mNil))) mP0)) mNil)))))) (mRet (mC (.bl false))) mNext)
abbrev lw22 : MS := (mIfS (mOr (mTst (mOp (isBT false) (mCall 3 (iso m_fills) [] (mCons (mTup (mCons (mC (.str "m")) mNil)) (mCons (mVar 4) (mCons (mTup (mCons (mVar 4) mNil)) mNil)))) (mC (.bl true)))) (mOr (mTst (mOp (isBT false) (mCall 2 (iso m_are_apart) [] (mCons (mTup (mCons (mC (.str "m")) mNil)) (mCons (mTup mNil) mNil))) (mC (.bl true)))) (mTst (mOp neT (mCall 2 (iso m_cell_of) [] (mCons (mTup (mCons (mC (.str "m")) mNil)) (mCons (mOp addT (mVar 4) (mVar 4)) mNil))) (mVar 4))))) (mRet (mC (.bl false))) mNext)
abbrev lawBody : MS := mSeq lw0 (mSeq lw1 (mSeq lw2 (mSeq lw3 (mSeq lw4 (mSeq lw5 (mSeq lw6 (mSeq lw7 (mSeq lw8 (mSeq lw9 (mSeq lw10 (mSeq lw11 (mSeq lw12 (mSeq lw13 (mSeq lw14 (mSeq lw15 (mSeq lw16 (mSeq lw17 (mSeq lw18 (mSeq lw19 (mSeq lw20 (mSeq lw21 lw22)))))))))))))))))))))
theorem bx : m_box [mmT, .dct [.inr "m"] [pT 0 1 2 1]] [] = .ok cellT [.lst [.tup [.int (-1), .int 0], .tup [.int 1, .int (-2)]]] := by kernel_rfl
theorem co : m_cell_of [mmT, .tup [c0, c1, c0, c1]] [] = .ok cellT [] := by kernel_rfl
theorem fl : m_fills [mmT, cellT, .tup [cellT]] [] = .ok (.bl true) [] := by kernel_rfl
theorem ar : m_are_apart [mmT, .tup []] [] = .ok (.bl true) [] := by kernel_rfl
theorem bx' (st : List O) : iso m_box [mmT, .dct [.inr "m"] [pT 0 1 2 1]] st = .ok cellT st := iso_okR (by kernel_rfl) bx (by kernel_rfl)
theorem co' (st : List O) : iso m_cell_of [mmT, .tup [c0, c1, c0, c1]] st = .ok cellT st := iso_ok (by kernel_rfl) co
theorem fl' (st : List O) : iso m_fills [mmT, cellT, .tup [cellT]] st = .ok (.bl true) st := iso_ok (by kernel_rfl) fl
theorem ar' (st : List O) : iso m_are_apart [mmT, .tup []] st = .ok (.bl true) st := iso_ok (by kernel_rfl) ar
theorem nM : (noMarks.all fun x => nrf 200 x) = true := by decide +kernel
theorem nC : (noCells.all fun x => nrf 200 x) = true := by decide +kernel
theorem nL : (noLines.all fun x => nrf 200 x) = true := by decide +kernel
theorem nB : (noBounds.all fun x => nrf 200 x) = true := by decide +kernel
theorem nW : ∀ k, k ≤ 28 → nrfs 200 (cs k) = true := by
  intro k hk
  have : ∀ k : Fin 29, nrfs 200 (cs k.1) = true := by decide +kernel
  exact this ⟨k, by omega⟩
theorem cloW {X : List O} (hX : Clo X) {k : Nat} (hk : k ≤ 28) : Clo (X ++ [.lst (cs k)]) := hX.app (Clo.lst (nW k hk))
abbrev someT : List T := [.non, .dct [] [], .dct [.inr "n"] [pT 0 1 1 1], .dct [.inr "m"] [pT 1 1 1 1], .dct [.inr "m"] [pT 2 1 1 1], .dct [.inr "m"] [nT 0 1], .dct [.inr "m"] [.tup [nT 0 1]], .dct [.inr "m"] [pT 0 1 2 2]]
section
variable {v0 v2 v3 v4 v5 v6 v7 v8 v9 v10 : Option T} {a b l d : T} {n : Nat} {s : SP} {X : List O}
theorem st0 (h : Ok (n + 1) s) (hX : Clo X) : ∃ a s', lw0 [v0, some (.ref 2), v2, v3, v4, v5, v6, v7, v8, v9, v10] (B s X) = .ok (.nx [v0, some (.ref 2), v2, some a, v4, v5, v6, v7, v8, v9, v10]) (B s' X) ∧ a ∈ noMarks ∧ Ok n s' := by
  obtain ⟨r, s', e, hr, h'⟩ := pick_lst (xs := noMarks) h hX (nrf_all nM) (by simp) (by simp)
  exact ⟨r, s', s_set (e_call (e_cons (e_var rfl) (e_cons (by kernel_rfl) e_nil)) rfl e) rfl, hr, h'⟩
theorem st1 : lw1 [v0, some (.ref 2), v2, v3, v4, v5, v6, v7, v8, v9, v10] (B s X) = .ok (.nx [v0, some (.ref 2), v2, v3, some cellT, v5, v6, v7, v8, v9, v10]) (B s X) :=
  s_set (e_call (e_cons e_mm (e_cons (by kernel_rfl) e_nil)) rfl (bx' _)) rfl
theorem st2 (h : Ok (n + 1) s) (hX : Clo X) : ∃ b s', lw2 [v0, some (.ref 2), v2, v3, some cellT, v5, v6, v7, v8, v9, v10] (B s X) = .ok (.nx [v0, some (.ref 2), v2, v3, some cellT, some b, v6, v7, v8, v9, v10]) (B s' X) ∧ b ∈ noCells ∧ Ok n s' := by
  obtain ⟨r, s', e, hr, h'⟩ := pick_lst (xs := noCells) h hX (nrf_all nC) (by simp) (by simp)
  exact ⟨r, s', s_set (e_call (e_cons (e_var rfl) (e_cons (by kernel_rfl) e_nil)) rfl e) rfl, hr, h'⟩
theorem c3 {σ : Ev} {st : List O} (h4 : σ[4]? = some (some cellT)) : (mLst (mCons (mC .non) (mCons (mLst mNil) (mCons (mCB listB (mCons (mVar 4) mNil)) (mCons (mTup (mCons (mC .non) mNil)) (mCons (mTup (mCons (mCall 2 (iso m_l_line) [] (mCons (mTup (mCons (mC (.str "z")) mNil)) (mCons (mLst (mCons (mC (.int 1)) (mCons (mC (.int 1)) mNil))) mNil))) mNil)) (mCons (mTup (mCons (mTup (mCons (mCall 2 (iso m_l_form) [] (mCons (mTup (mCons (mC (.str "m")) mNil)) (mCons (mLst (mCons (mC (.int 1)) (mCons (mC (.int 1)) mNil))) mNil))) (mCons (mC (.str "=")) mNil))) mNil)) (mCons (mOp mulT (mVar 4) (mC (.int 13))) (mCons (mC (.str "m")) (mCons (mTup mNil) mNil)))))))))) σ st = .ok (.lst noLines) st := by
  have a1 : mCall 2 (iso m_l_line) [] (mCons (mTup (mCons (mC (.str "z")) mNil)) (mCons (mLst (mCons (mC (.int 1)) (mCons (mC (.int 1)) mNil))) mNil)) σ st = .ok (lineT "z" 1 1 "<=") st := e_call (e_cons e_zz (e_cons e_11 e_nil)) rfl (lz' st)
  have a2 : mCall 2 (iso m_l_form) [] (mCons (mTup (mCons (mC (.str "m")) mNil)) (mCons (mLst (mCons (mC (.int 1)) (mCons (mC (.int 1)) mNil))) mNil)) σ st = .ok (frmT "m" 1 1) st := e_call (e_cons e_mm (e_cons e_11 e_nil)) rfl (fm' st)
  exact e_lst (e_cons e_c (e_cons e_l0 (e_cons (e_cb (e_cons (e_var h4) e_nil) rfl) (e_cons (e_tup (e_cons e_c e_nil) rfl) (e_cons (e_tup (e_cons a1 e_nil) rfl) (e_cons (e_tup (e_cons (e_tup (e_cons a2 (e_cons e_c e_nil)) rfl) e_nil) rfl) (e_cons (e_op (e_var h4) e_c rfl) (e_cons e_c (e_cons (e_tup e_nil rfl) e_nil))))))))) rfl
theorem st3 (h : Ok (n + 1) s) (hX : Clo X) : ∃ l s', lw3 [v0, some (.ref 2), v2, v3, some cellT, v5, v6, v7, v8, v9, v10] (B s X) = .ok (.nx [v0, some (.ref 2), v2, v3, some cellT, v5, some l, v7, v8, v9, v10]) (B s' X) ∧ l ∈ noLines ∧ Ok n s' := by
  obtain ⟨r, s', e, hr, h'⟩ := pick_lst (xs := noLines) h hX (nrf_all nL) (by simp) (by simp)
  exact ⟨r, s', s_set (e_call (e_cons (e_var rfl) (e_cons (c3 rfl) e_nil)) rfl e) rfl, hr, h'⟩
theorem st4 : lw4 [v0, some (.ref 2), v2, v3, v4, v5, v6, v7, v8, v9, v10] (B s X) = .ok (.nx [v0, some (.ref 2), v2, v3, v4, v5, v6, some (.lst someT), v8, v9, v10]) (B s X) := s_set (t := .lst someT) (by kernel_rfl) rfl
theorem st5 (h : Ok (n + 1) s) (hX : Clo X) : ∃ d s', lw5 [v0, some (.ref 2), v2, v3, v4, v5, v6, some (.lst someT), v8, v9, v10] (B s X) = .ok (.nx [v0, some (.ref 2), v2, v3, v4, v5, v6, some (.lst someT), some d, v9, v10]) (B s' X) ∧ d ∈ noBounds ∧ Ok n s' := by
  obtain ⟨r, s', e, hr, h'⟩ := pick_lst (xs := noBounds) h hX (nrf_all nB) (by simp) (by simp)
  exact ⟨r, s', s_set (e_call (e_cons (e_var rfl) (e_cons (by kernel_rfl) e_nil)) rfl e) rfl, hr, h'⟩
theorem st6 (ha : a ∈ noMarks) : lw6 [v0, some (.ref 2), v2, some a, some cellT, v5, v6, v7, v8, v9, v10] (B s X) = .ok (.nx [v0, some (.ref 2), v2, some a, some cellT, v5, v6, v7, v8, some (.ref (X.length + 3)), v10]) (Wd s X 1) := by
  have e := wd_ok (j := 0) (σ := [v0, some (.ref 2), v2, some a, some cellT, v5, v6, v7, v8, v9, v10]) (s := s) (X := X) (L0 ha rfl rfl)
  exact s_set (t := .ref (X.length + 3)) (e_lstM (e_cons e e_nil) rfl) rfl
abbrev env (v0 v2 : Option T) (a b l d : T) (X : List O) (v10 : Option T) : Ev := [v0, some (.ref 2), v2, some a, some cellT, some b, some l, some (.lst someT), some d, some (.ref (X.length + 3)), v10]
theorem st11_1 {i k : Nat} (hi : i < 3) (hk : k < 900) (ha : a ∈ noMarks) (hb : b ∈ noCells) : (mSeq (ap 5) (mSeq (ap 6) (ap 7))) (env v0 v2 a b l d X (some (.fn i))) (Wd s X k) = .ok (.nx (env v0 v2 a b l d X (some (.fn i)))) (Wd s X (k + 3)) := by
  refine s_seq (ap_ok (s' := s) rfl (by omega) (L5 hi ha hb rfl rfl rfl)) ?_
  refine s_seq (ap_ok (s' := s) rfl (by omega) (L6 hi hb rfl rfl)) ?_
  exact ap_ok (s' := s) rfl (by omega) (L7 hi rfl rfl)
theorem st12_1 {i k : Nat} (hi : i = 3 ∨ i = 4) (hk : k < 900) (ha : a ∈ noMarks) (hb : b ∈ noCells) : (mSeq (ap 8) (mSeq (ap 9) (ap 10))) (env v0 v2 a b l d X (some (.fn i))) (Wd s X k) = .ok (.nx (env v0 v2 a b l d X (some (.fn i)))) (Wd s X (k + 3)) := by
  refine s_seq (ap_ok (s' := s) rfl (by omega) (L8 hi ha hb rfl rfl rfl)) ?_
  refine s_seq (ap_ok (s' := s) rfl (by omega) (L9 hi hb rfl rfl rfl)) ?_
  exact ap_ok (s' := s) rfl (by omega) (L10 hi hb rfl rfl rfl)
theorem st11 {k : Nat} (hk : k < 800) (ha : a ∈ noMarks) (hb : b ∈ noCells) : lw11 (env v0 v2 a b l d X v10) (Wd s X k) = .ok (.nx (env v0 v2 a b l d X (some (.fn 2)))) (Wd s X (k + 9)) := by
  refine s_for (src := .lst [.fn 0, .fn 1, .fn 2]) (i_lst rfl) ?_
  exact f_1 rfl rfl rfl (st11_1 (i := 0) (by decide) (by omega) ha hb) (f_1 rfl rfl rfl (st11_1 (i := 1) (k := k + 3) (by decide) (by omega) ha hb) (f_1 rfl rfl rfl (st11_1 (i := 2) (k := k + 6) (by decide) (by omega) ha hb) (f_0 rfl)))
theorem st12 {k : Nat} (hk : k < 800) (ha : a ∈ noMarks) (hb : b ∈ noCells) : lw12 (env v0 v2 a b l d X v10) (Wd s X k) = .ok (.nx (env v0 v2 a b l d X (some (.fn 4)))) (Wd s X (k + 6)) := by
  refine s_for (src := .lst [.fn 3, .fn 4]) (i_lst rfl) ?_
  exact f_1 rfl rfl rfl (st12_1 (i := 3) (.inl rfl) (by omega) ha hb) (f_1 rfl rfl rfl (st12_1 (i := 4) (k := k + 3) (.inr rfl) (by omega) ha hb) (f_0 rfl))
/-- the words, seen as data -/
theorem pds_cs (st : List O) : ∀ (k n : Nat), k + 1 < n → pds st n (cs k) = some (List.replicate k (PyData.str "cell"))
  | 0, n, h => by
    cases n with
    | zero => omega
    | succ n => rfl
  | k + 1, n, h => by
    cases n with
    | zero => omega
    | succ n =>
      have ih := pds_cs st k n (by omega)
      rw [show cs (k + 1) = T.str "cell" :: cs k from rfl]
      simp only [pds]
      cases n with
      | zero => omega
      | succ n =>
        rw [show pd st (n + 1) (T.str "cell") = some (PyData.str "cell") from rfl, ih]
        rfl
theorem ne_words {i : Nat} {st : List O} (h : st[i]? = some (.lst (cs 28))) : neT (.ref i) (.lst (cs 28)) st = .ok (.bl false) st := by
  have p1 : pd st 100 (.ref i) = some (.list (List.replicate 28 (PyData.str "cell"))) := by
    unfold pd
    simp only [h, pds_cs st 28 99 (by omega)]
  have p2 : pd st 100 (.lst (cs 28)) = some (.list (List.replicate 28 (PyData.str "cell"))) := by
    unfold pd
    simp only [pds_cs st 28 99 (by omega)]
  show (match eqD st (.ref i) (.lst (cs 28)) with
    | some k => Rs.ok (T.bl (!k)) st
    | none => Rs.no) = _
  have e : eqD st (.ref i) (.lst (cs 28)) = some true := by
    unfold eqD
    rw [p1, p2]
    have q : (match SeqAt.shaped (PyData.list (List.replicate 28 (PyData.str "cell"))) && SeqAt.shaped (PyData.list (List.replicate 28 (PyData.str "cell"))) with
      | true => some (PyData.eqv (PyData.list (List.replicate 28 (PyData.str "cell"))) (PyData.list (List.replicate 28 (PyData.str "cell"))))
      | false => none) = some true := by decide +kernel
    exact q
  rw [e]
  rfl
theorem ne_cell (st : List O) : neT cellT cellT st = .ok (.bl false) st := by kernel_rfl
theorem e_dm {σ : Ev} {st : List O} : mDisp false (mPc (mC (.str "m")) (mTup (mCons (mTup (mCons (mC (.int 0)) (mCons (mC (.int 1)) mNil))) (mCons (mTup (mCons (mC (.int 2)) (mCons (mC (.int 1)) mNil))) mNil))) mP0) σ st = .ok (.dct [.inr "m"] [pT 0 1 2 1]) st := by kernel_rfl
theorem st21 : lw21 (env v0 v2 a b l d X v10) (Wd s X 28) = .ok (.nx (env v0 v2 a b l d X v10)) (Wd s X 28) := by
  have g : (Wd s X 28)[X.length + 3]? = some (.lst (cs 28)) := by rw [B_get]; exact app_get0 X _ []
  have m : mulT (.lst [.str "cell"]) (.int 28) (Wd s X 28) = .ok (.lst (cs 28)) (Wd s X 28) := by kernel_rfl
  have q1 : mOp neT (mVar 9) (mOp mulT (mLst (mCons (mC (.str "cell")) mNil)) (mCB lenB (mCons (mVar 9) mNil))) (env v0 v2 a b l d X v10) (Wd s X 28) = .ok (.bl false) (Wd s X 28) :=
    e_op (e_var rfl) (e_op (e_lst (e_cons e_c e_nil) rfl) (e_cb (e_cons (e_var rfl) e_nil) (len_own g)) (by rw [show (((cs 28).length : Nat) : Int) = 28 from rfl]; exact m)) (ne_words g)
  have q2 : mOp neT (mVar 4) (mCall 2 (iso m_box) [] (mCons (mTup (mCons (mC (.str "m")) mNil)) (mCons (mDisp false (mPc (mC (.str "m")) (mTup (mCons (mTup (mCons (mC (.int 0)) (mCons (mC (.int 1)) mNil))) (mCons (mTup (mCons (mC (.int 2)) (mCons (mC (.int 1)) mNil))) mNil))) mP0)) mNil))) (env v0 v2 a b l d X v10) (Wd s X 28) = .ok (.bl false) (Wd s X 28) :=
    e_op (e_var rfl) (e_call (e_cons e_mm (e_cons e_dm e_nil)) rfl (bx' _)) (ne_cell _)
  exact s_ifF (e_orF (e_tst q1) rfl (e_tst q2)) rfl s_next
theorem st22 {st : List O} : lw22 (env v0 v2 a b l d X v10) st = .ok (.nx (env v0 v2 a b l d X v10)) st := by
  have q1 : mOp (isBT false) (mCall 3 (iso m_fills) [] (mCons (mTup (mCons (mC (.str "m")) mNil)) (mCons (mVar 4) (mCons (mTup (mCons (mVar 4) mNil)) mNil)))) (mC (.bl true)) (env v0 v2 a b l d X v10) st = .ok (.bl false) st :=
    e_op (e_call (e_cons e_mm (e_cons (e_var rfl) (e_cons (e_tup (e_cons (e_var rfl) e_nil) rfl) e_nil))) rfl (fl' st)) e_c rfl
  have q2 : mOp (isBT false) (mCall 2 (iso m_are_apart) [] (mCons (mTup (mCons (mC (.str "m")) mNil)) (mCons (mTup mNil) mNil))) (mC (.bl true)) (env v0 v2 a b l d X v10) st = .ok (.bl false) st :=
    e_op (e_call (e_cons e_mm (e_cons (e_tup e_nil rfl) e_nil)) rfl (ar' st)) e_c rfl
  have q3 : mOp neT (mCall 2 (iso m_cell_of) [] (mCons (mTup (mCons (mC (.str "m")) mNil)) (mCons (mOp addT (mVar 4) (mVar 4)) mNil))) (mVar 4) (env v0 v2 a b l d X v10) st = .ok (.bl false) st :=
    e_op (e_call (e_cons e_mm (e_cons (e_op (e_var rfl) (e_var rfl) rfl) e_nil)) rfl (co' st)) (e_var rfl) (ne_cell st)
  exact s_ifF (e_orF (e_tst q1) rfl (e_orF (e_tst q2) rfl (e_tst q3))) rfl s_next
theorem lap (h : Ok (n + 7) s) (hX : Clo X) : ∃ a b l d s', lawBody [v0, some (.ref 2), v2, v3, v4, v5, v6, v7, v8, v9, v10] (B s X) = .ok (.nx (env v0 v2 a b l d X (some (.fn 4)))) (Wd s' X 28) ∧ Ok n s' := by
  obtain ⟨a, s1, e1, ha, h1⟩ := st0 (n := n + 6) (v0 := v0) (v2 := v2) (v3 := v3) (v4 := v4) (v5 := v5) (v6 := v6) (v7 := v7) (v8 := v8) (v9 := v9) (v10 := v10) h hX
  obtain ⟨b, s2, e2, hb, h2⟩ := st2 (n := n + 5) (v0 := v0) (v2 := v2) (v3 := some a) (v5 := v5) (v6 := v6) (v7 := v7) (v8 := v8) (v9 := v9) (v10 := v10) h1 hX
  obtain ⟨l, s3, e3, hl, h3⟩ := st3 (n := n + 4) (v0 := v0) (v2 := v2) (v3 := some a) (v5 := some b) (v6 := v6) (v7 := v7) (v8 := v8) (v9 := v9) (v10 := v10) h2 hX
  obtain ⟨d, s4, e4, hd, h4⟩ := st5 (n := n + 3) (v0 := v0) (v2 := v2) (v3 := some a) (v4 := some cellT) (v5 := some b) (v6 := some l) (v8 := v8) (v9 := v9) (v10 := v10) h3 hX
  obtain ⟨s5, e5, h5⟩ := L13 (n := n + 2) (σ := env v0 v2 a b l d X (some (.fn 4))) (X := X ++ [.lst (cs 22)]) h4 (cloW hX (by decide)) rfl rfl
  obtain ⟨s6, e6, h6⟩ := L15 (n := n + 1) (σ := env v0 v2 a b l d X (some (.fn 4))) (X := X ++ [.lst (cs 24)]) h5 (cloW hX (by decide)) hb rfl rfl rfl
  obtain ⟨s7, e7, h7⟩ := L18 (n := n) (σ := env v0 v2 a b l d X (some (.fn 4))) (X := X ++ [.lst (cs 27)]) h6 (cloW hX (by decide)) hb rfl rfl rfl
  refine ⟨a, b, l, d, s7, ?_, h7⟩
  refine s_seq e1 (s_seq st1 (s_seq e2 (s_seq e3 (s_seq st4 (s_seq e4 (s_seq (st6 ha) ?_))))))
  refine s_seq (ap_ok (j := 1) (s' := s4) rfl (by decide) (L1 hl rfl)) ?_
  refine s_seq (ap_ok (j := 2) (s' := s4) rfl (by decide) (L2' ha rfl)) ?_
  refine s_seq (ap_ok (j := 3) (s' := s4) rfl (by decide) (L3 ha hd rfl rfl)) ?_
  refine s_seq (ap_ok (j := 4) (s' := s4) rfl (by decide) (L4 hd rfl)) ?_
  refine s_seq (st11 (k := 5) (by decide) ha hb) ?_
  refine s_seq (st12 (k := 14) (by decide) ha hb) ?_
  refine s_seq (ap_ok (j := 11) (s' := s4) rfl (by decide) (L11 ha rfl rfl)) ?_
  refine s_seq (ap_ok (j := 12) (s' := s4) rfl (by decide) (L12 hb rfl)) ?_
  refine s_seq (ap_ok (j := 13) (s' := s5) rfl (by decide) e5) ?_
  refine s_seq (ap_ok (j := 14) (s' := s5) rfl (by decide) (L14 ha rfl)) ?_
  refine s_seq (ap_ok (j := 15) (s' := s6) rfl (by decide) e6) ?_
  refine s_seq (ap_ok (j := 16) (s' := s6) rfl (by decide) (L16 ha rfl rfl)) ?_
  refine s_seq (ap_ok (j := 17) (s' := s6) rfl (by decide) (L17 hb rfl)) ?_
  refine s_seq (ap_ok (j := 18) (s' := s7) rfl (by decide) e7) ?_
  exact s_seq st21 st22
end
end G08
namespace G08
open PySem L2 WR
theorem p_0 {σ : Ev} {st : List O} : mP0 σ st = .ok [] st := rfl
theorem p_c {k v : ME} {r : MP} {σ : Ev} {st st1 st2 st3 : List O} {a b : T} {m : List (T × T)} (h1 : k σ st = .ok a st1) (h2 : v σ st1 = .ok b st2) (h3 : r σ st2 = .ok m st3) : mPc k v r σ st = .ok ((a, b) :: m) st3 := by
  unfold mPc; rw [h1]; simp only [Rs.bind, h2, h3]
theorem e_disp {m : MP} {σ : Ev} {st st1 : List O} {ps : List (T × T)} {kts : List (Key × T)} (h : m σ st = .ok ps st1) (k : keysT ps = some kts) (l : Nat.ble ps.length 15 = true) : mDisp true m σ st = .ok (.ref st1.length) (st1 ++ [.dct (mergeT [] [] kts).1 (mergeT [] [] kts).2]) := by
  unfold mDisp; rw [h]; simp only [Rs.bind, k, l]
theorem e_dispF {m : MP} {σ : Ev} {st st1 : List O} {ps : List (T × T)} {kts : List (Key × T)} (h : m σ st = .ok ps st1) (k : keysT ps = some kts) (l : Nat.ble ps.length 15 = true) : mDisp false m σ st = .ok (.dct (mergeT [] [] kts).1 (mergeT [] [] kts).2) st1 := by
  unfold mDisp; rw [h]; simp only [Rs.bind, k, l]
theorem lcL_filter {src : Src} {xs : List T} {st : List O} (hs : ∀ i, srcAt src st i = some xs[i]?) {g : AG} {c : M Bool} {elt : ME} {σ : Ev} {p : T → Bool} {f : T → T} (h : ∀ t ∈ xs, ∃ σ1, g t σ = some σ1 ∧ c σ1 st = .ok (p t) st ∧ (p t = true → elt σ1 st = .ok (f t) st)) : ∀ (m i : Nat) (acc : List T), xs.length < i + m → i ≤ xs.length → acc.length ≤ i → xs.length < 1000 →
    lcL src g c elt σ m i acc st = .ok (acc ++ ((xs.drop i).filter p).map f) st
  | 0, i, _, h1, h2, _, _ => by omega
  | m + 1, i, acc, h1, h2, h3, h4 => by
    unfold lcL
    rw [hs]
    cases q : xs[i]? with
    | none =>
      have : xs.length ≤ i := List.getElem?_eq_none_iff.mp q
      simp [List.drop_eq_nil_of_le this]
    | some t =>
      have hi : i < xs.length := (List.getElem?_eq_some_iff.mp q).1
      have ht : t ∈ xs := List.mem_of_getElem? q
      obtain ⟨σ1, e1, e2, e3⟩ := h t ht
      have e4 : decide (acc.length < 16777216) = true := decide_eq_true (by omega)
      have hd : xs.drop i = t :: xs.drop (i + 1) := by
        rw [List.drop_eq_getElem_cons hi]
        have := (List.getElem?_eq_some_iff.mp q).2
        rw [this]
      simp only [e1, e2]
      cases pq : p t with
      | true =>
        simp only [e3 pq, e4]
        rw [lcL_filter hs h m (i + 1) (acc ++ [f t]) (by omega) (by omega) (by simp; omega) h4, hd]
        simp [pq]
      | false =>
        simp only
        rw [lcL_filter hs h m (i + 1) acc (by omega) (by omega) (by omega) h4, hd]
        simp [pq]
theorem lc_map {it : M Src} {src : Src} {vs : List Nat} {g : AG} {elt : ME} {σ σ0 : Ev} {st st1 : List O} {xs : List T} {f : T → T} (hi : it σ st = .ok src st1) (hs : ∀ i, srcAt src st1 i = some xs[i]?) (hw : wipeE σ vs = σ0) (hl : xs.length < 1000) (h : ∀ t ∈ xs, ∃ σ1, g t σ0 = some σ1 ∧ elt σ1 st1 = .ok (f t) st1) :
    mLc it vs g mYes elt σ st = .ok (.lst (xs.map f)) st1 := by
    subst hw
    unfold mLc
    rw [hi]
    simp only [Rs.bind]
    rw [lcL_filter hs (p := fun _ => true) (f := f) (fun t ht => by obtain ⟨σ1, x, y⟩ := h t ht; exact ⟨σ1, x, rfl, fun _ => y⟩) fuel 0 [] (by show xs.length < 0 + 1000000; omega) (Nat.zero_le _) (Nat.le_refl _) hl, List.filter_eq_self.mpr (by simp)]
    simp
theorem srcAt_scr {ns : List Int} {st : List O} : ∀ i, srcAt (.scr ns) st i = some (izs ns)[i]? := by
  intro i
  show (match ns[i]? with
    | some n => some (some (T.int n))
    | none => some none) = _
  rw [izs, List.getElem?_map]
  cases ns[i]? <;> rfl
def pG (t : T) : Bool := match t with
  | .int c => decide ((10 : Int) ^ 18 ≤ c.natAbs)
  | _ => false
def fG (t : T) : T := match t with
  | .int c => .int (c.natAbs - 10 ^ 18)
  | t => t
def fA (t : T) : T := match t with
  | .int c => .int c.natAbs
  | t => t
abbrev greatOf (ns : List Int) : List Int := (ns.filter fun c => decide ((10 : Int) ^ 18 ≤ c.natAbs)).map fun c => (c.natAbs : Int) - 10 ^ 18
theorem great_eq : ∀ (ns : List Int), ((izs ns).filter pG).map fG = izs (greatOf ns)
  | [] => rfl
  | n :: r => by
    have ih := great_eq r
    simp only [izs, greatOf] at ih
    cases q : decide ((10 : Int) ^ 18 ≤ n.natAbs) with
    | true =>
      have q' : pG (.int n) = true := q
      simp only [izs, greatOf, List.map_cons, List.filter_cons, q, q', if_true, ih, fG]
    | false =>
      have q' : pG (.int n) = false := q
      simp only [izs, greatOf, List.map_cons, List.filter_cons, q, q', if_false, ih, Bool.false_eq_true]
theorem begun_ok {ns : List Int} (hn : ns.length ≤ 63) : m_l_begun [.scr ns] [.tbl 0] = .ok (.ref 2) (B ⟨greatOf ns, ns.map fun c => (c.natAbs : Int), 0, 0⟩ []) := by
  have w : powT (.int 10) (.int 18) [.tbl 0] = .ok (.int (10 ^ 18)) [.tbl 0] := rfl
  have a : ∀ (c : Int) st, absB [.int c] st = .ok (.int c.natAbs) st := fun c st => by
    show Rs.ok (T.int (if c < 0 then -c else c)) st = _
    congr 2
    split <;> omega
  have e1 : mLcM (mIA (mVar 0)) [2] (agN 2) (mTst (mOp (cmpI fun i j => decide (j ≤ i)) (mCB absB (mCons (mVar 2) mNil)) (mOp powT (mC (.int 10)) (mC (.int 18))))) (mOp subT (mCB absB (mCons (mVar 2) mNil)) (mOp powT (mC (.int 10)) (mC (.int 18)))) [some (.scr ns), none, none] [.tbl 0] = .ok (.ref 1) [.tbl 0, .lst (izs (greatOf ns))] := by
    have := lcL_filter (src := .scr ns) (xs := izs ns) (st := [.tbl 0]) (g := agN 2) (c := mTst (mOp (cmpI fun i j => decide (j ≤ i)) (mCB absB (mCons (mVar 2) mNil)) (mOp powT (mC (.int 10)) (mC (.int 18))))) (elt := mOp subT (mCB absB (mCons (mVar 2) mNil)) (mOp powT (mC (.int 10)) (mC (.int 18)))) (σ := [some (.scr ns), none, none]) (p := pG) (f := fG) srcAt_scr (by
      intro t ht
      obtain ⟨c, _, rfl⟩ := List.mem_map.mp ht
      have a := a c [.tbl 0]
      refine ⟨_, rfl, ?_, fun _ => ?_⟩
      · unfold pG
        repeat' (first | ((with_reducible show _ = _); with_reducible assumption) | ((with_reducible apply e_var); rfl) | with_reducible apply e_c | with_reducible apply e_nil | with_reducible apply e_d0 | with_reducible apply e_partN | with_reducible apply s_next | with_reducible apply s_raise0 | with_reducible apply e_cons | with_reducible apply e_tup | with_reducible apply e_lst | with_reducible apply e_lstM | with_reducible apply e_op | with_reducible apply e_un | with_reducible apply e_tst | with_reducible apply e_not | with_reducible apply e_notV | with_reducible apply e_neg | with_reducible apply e_or | with_reducible apply e_and | with_reducible apply e_andV | with_reducible apply e_if | with_reducible apply e_partS | with_reducible apply e_sl | with_reducible apply e_call | with_reducible apply e_callK | with_reducible apply e_cb | with_reducible apply e_met | with_reducible apply e_chain | with_reducible apply e_meth | with_reducible apply s_seq | with_reducible apply s_expr | with_reducible apply s_ret | with_reducible apply s_if | with_reducible apply s_set | with_reducible apply s_par | with_reducible apply s_asg | with_reducible apply s_dput | with_reducible apply s_setIx | with_reducible apply s_putF | with_reducible apply s_raiseX | with_reducible apply e_ex | with_reducible apply i_ia | with_reducible apply e_tupRg | with_reducible apply i_r1 | with_reducible apply e_lc | with_reducible apply e_lcM | with_reducible apply l_ex | with_reducible apply s_for | ((with_reducible apply l_0); focus rfl) | ((with_reducible apply f_0); focus rfl) | ((with_reducible apply l_1); focus rfl) | ((with_reducible apply f_1); focus rfl) | ((with_reducible refine Or.inl ⟨?_, ?_⟩); focus (first | rfl | with_reducible assumption | ((with_reducible apply not_t); with_reducible assumption) | ((with_reducible apply not_f); with_reducible assumption) | decide)) | ((with_reducible refine Or.inr ⟨?_, ?_⟩); focus (first | rfl | with_reducible assumption | ((with_reducible apply not_t); with_reducible assumption) | ((with_reducible apply not_f); with_reducible assumption) | decide)) | ((with_reducible show addT _ _ _ = _); rfl) | ((with_reducible show subT _ _ _ = _); rfl) | ((with_reducible show mulT _ _ _ = _); rfl) | ((with_reducible show fdivT _ _ _ = _); rfl) | ((with_reducible show modT _ _ _ = _); rfl) | ((with_reducible show powT _ _ _ = _); rfl) | ((with_reducible show eqT _ _ _ = _); rfl) | ((with_reducible show neT _ _ _ = _); rfl) | ((with_reducible show ltT _ _ _ = _); rfl) | ((with_reducible show ixT _ _ _ = _); rfl) | ((with_reducible show dgetT _ _ _ = _); rfl) | ((with_reducible show cmpI _ _ _ _ = _); rfl) | ((with_reducible show isN _ _ _ _ = _); rfl) | ((with_reducible show inT _ _ _ _ = _); rfl) | ((with_reducible show dinT _ _ _ _ = _); rfl) | ((with_reducible show slT _ _ _ _ = _); rfl) | ((with_reducible show fldT _ _ _ _ = _); rfl) | ((with_reducible show xfldT _ _ _ _ = _); rfl) | ((with_reducible show popAtT _ _ _ = _); rfl) | ((with_reducible show appendT _ _ _ = _); rfl) | ((with_reducible show putO _ _ _ _ _ = _); rfl) | ((with_reducible show setT _ _ _ _ = _); rfl) | ((with_reducible show dputT _ _ _ _ = _); rfl) | ((with_reducible show insT _ _ = _); rfl) | ((with_reducible show lookF _ _ _ = _); rfl) | ((with_reducible show Nat.beq _ _ = _); rfl) | ((with_reducible show permT _ _ = _); rfl) | ((with_reducible show isL _ _ = _); rfl) | ((with_reducible show isiB _ _ _ = _); rfl) | ((with_reducible show WR.sizeOk _ = _); rfl) | ((with_reducible show List.length _ = _); rfl) | ((with_reducible show getElem? _ _ = _); rfl) | ((with_reducible show (_ :: _) = _); rfl) | ((with_reducible show (_ ++ _) = _); rfl) | ((with_reducible show dictB _ _ _ = _); rfl) | ((with_reducible show sortB _ _ _ = _); rfl) | ((with_reducible show Rs.ok _ _ = _); rfl) | ((with_reducible show RsS.ok _ _ = _); rfl) | ((with_reducible show Rs.exc _ _ = _); rfl) | ((with_reducible show RsS.exc _ _ _ = _); rfl) | ((with_reducible show srcAt _ _ _ = _); rfl) | ((with_reducible show mYes _ _ = _); rfl) | ((with_reducible show subW _ = _); rfl) | ((with_reducible show sub _ = _); rfl) | ((with_reducible show iaOf _ _ = _); rfl) | ((with_reducible show rngOk _ = _); rfl) | ((with_reducible show _ + 1 = _); rfl) | ((with_reducible show (!_) = _); rfl) | ((with_reducible show [] = _); rfl) | ((with_reducible show lenB _ _ = _); rfl) | ((with_reducible show absB _ _ = _); rfl) | ((with_reducible show intB _ _ = _); rfl) | ((with_reducible show intX _ _ = _); rfl) | ((with_reducible show anyX _ _ = _); rfl) | ((with_reducible show sumB _ _ = _); rfl) | ((with_reducible show minB _ _ = _); rfl) | ((with_reducible show maxB _ _ = _); rfl) | ((with_reducible show listB _ _ = _); rfl) | ((with_reducible show listM _ _ = _); rfl) | ((with_reducible show tupleB _ _ = _); rfl) | ((with_reducible show sortX _ _ = _); rfl) | ((with_reducible show sortY _ _ = _); rfl) | ((with_reducible show anyB _ _ _ = _); rfl) | ((with_reducible show List.length _ < 1000); first | exact of_decide_eq_true rfl | omega | (simp only [List.length_map]; omega)) | ((with_reducible show _ ≤ 16777216); first | exact of_decide_eq_true rfl | omega | (simp only [List.length_map]; omega)) | ((with_reducible show ∀ _, srcAt _ _ _ = _); exact fun _ => rfl) | ((with_reducible show agN _ _ _ = _); (simp only [agN, agT, agCons, agNil, wipeE, List.foldl, List.length_cons, List.length_nil, Nat.reduceAdd, Nat.zero_add, Nat.beq, List.set_cons_zero, List.set_cons_succ]) <;> rfl) | ((with_reducible show agT _ _ _ _ = _); (simp only [agN, agT, agCons, agNil, wipeE, List.foldl, List.length_cons, List.length_nil, Nat.reduceAdd, Nat.zero_add, Nat.beq, List.set_cons_zero, List.set_cons_succ]) <;> rfl) | ((with_reducible show List.set _ _ _ = _); (simp only [agN, agT, agCons, agNil, wipeE, List.foldl, List.length_cons, List.length_nil, Nat.reduceAdd, Nat.zero_add, Nat.beq, List.set_cons_zero, List.set_cons_succ]) <;> rfl) | ((with_reducible show wipeE _ _ = _); (simp only [agN, agT, agCons, agNil, wipeE, List.foldl, List.length_cons, List.length_nil, Nat.reduceAdd, Nat.zero_add, Nat.beq, List.set_cons_zero, List.set_cons_succ]) <;> rfl))
      · unfold fG
        repeat' (first | ((with_reducible show _ = _); with_reducible assumption) | ((with_reducible apply e_var); rfl) | with_reducible apply e_c | with_reducible apply e_nil | with_reducible apply e_d0 | with_reducible apply e_partN | with_reducible apply s_next | with_reducible apply s_raise0 | with_reducible apply e_cons | with_reducible apply e_tup | with_reducible apply e_lst | with_reducible apply e_lstM | with_reducible apply e_op | with_reducible apply e_un | with_reducible apply e_tst | with_reducible apply e_not | with_reducible apply e_notV | with_reducible apply e_neg | with_reducible apply e_or | with_reducible apply e_and | with_reducible apply e_andV | with_reducible apply e_if | with_reducible apply e_partS | with_reducible apply e_sl | with_reducible apply e_call | with_reducible apply e_callK | with_reducible apply e_cb | with_reducible apply e_met | with_reducible apply e_chain | with_reducible apply e_meth | with_reducible apply s_seq | with_reducible apply s_expr | with_reducible apply s_ret | with_reducible apply s_if | with_reducible apply s_set | with_reducible apply s_par | with_reducible apply s_asg | with_reducible apply s_dput | with_reducible apply s_setIx | with_reducible apply s_putF | with_reducible apply s_raiseX | with_reducible apply e_ex | with_reducible apply i_ia | with_reducible apply e_tupRg | with_reducible apply i_r1 | with_reducible apply e_lc | with_reducible apply e_lcM | with_reducible apply l_ex | with_reducible apply s_for | ((with_reducible apply l_0); focus rfl) | ((with_reducible apply f_0); focus rfl) | ((with_reducible apply l_1); focus rfl) | ((with_reducible apply f_1); focus rfl) | ((with_reducible refine Or.inl ⟨?_, ?_⟩); focus (first | rfl | with_reducible assumption | ((with_reducible apply not_t); with_reducible assumption) | ((with_reducible apply not_f); with_reducible assumption) | decide)) | ((with_reducible refine Or.inr ⟨?_, ?_⟩); focus (first | rfl | with_reducible assumption | ((with_reducible apply not_t); with_reducible assumption) | ((with_reducible apply not_f); with_reducible assumption) | decide)) | ((with_reducible show addT _ _ _ = _); rfl) | ((with_reducible show subT _ _ _ = _); rfl) | ((with_reducible show mulT _ _ _ = _); rfl) | ((with_reducible show fdivT _ _ _ = _); rfl) | ((with_reducible show modT _ _ _ = _); rfl) | ((with_reducible show powT _ _ _ = _); rfl) | ((with_reducible show eqT _ _ _ = _); rfl) | ((with_reducible show neT _ _ _ = _); rfl) | ((with_reducible show ltT _ _ _ = _); rfl) | ((with_reducible show ixT _ _ _ = _); rfl) | ((with_reducible show dgetT _ _ _ = _); rfl) | ((with_reducible show cmpI _ _ _ _ = _); rfl) | ((with_reducible show isN _ _ _ _ = _); rfl) | ((with_reducible show inT _ _ _ _ = _); rfl) | ((with_reducible show dinT _ _ _ _ = _); rfl) | ((with_reducible show slT _ _ _ _ = _); rfl) | ((with_reducible show fldT _ _ _ _ = _); rfl) | ((with_reducible show xfldT _ _ _ _ = _); rfl) | ((with_reducible show popAtT _ _ _ = _); rfl) | ((with_reducible show appendT _ _ _ = _); rfl) | ((with_reducible show putO _ _ _ _ _ = _); rfl) | ((with_reducible show setT _ _ _ _ = _); rfl) | ((with_reducible show dputT _ _ _ _ = _); rfl) | ((with_reducible show insT _ _ = _); rfl) | ((with_reducible show lookF _ _ _ = _); rfl) | ((with_reducible show Nat.beq _ _ = _); rfl) | ((with_reducible show permT _ _ = _); rfl) | ((with_reducible show isL _ _ = _); rfl) | ((with_reducible show isiB _ _ _ = _); rfl) | ((with_reducible show WR.sizeOk _ = _); rfl) | ((with_reducible show List.length _ = _); rfl) | ((with_reducible show getElem? _ _ = _); rfl) | ((with_reducible show (_ :: _) = _); rfl) | ((with_reducible show (_ ++ _) = _); rfl) | ((with_reducible show dictB _ _ _ = _); rfl) | ((with_reducible show sortB _ _ _ = _); rfl) | ((with_reducible show Rs.ok _ _ = _); rfl) | ((with_reducible show RsS.ok _ _ = _); rfl) | ((with_reducible show Rs.exc _ _ = _); rfl) | ((with_reducible show RsS.exc _ _ _ = _); rfl) | ((with_reducible show srcAt _ _ _ = _); rfl) | ((with_reducible show mYes _ _ = _); rfl) | ((with_reducible show subW _ = _); rfl) | ((with_reducible show sub _ = _); rfl) | ((with_reducible show iaOf _ _ = _); rfl) | ((with_reducible show rngOk _ = _); rfl) | ((with_reducible show _ + 1 = _); rfl) | ((with_reducible show (!_) = _); rfl) | ((with_reducible show [] = _); rfl) | ((with_reducible show lenB _ _ = _); rfl) | ((with_reducible show absB _ _ = _); rfl) | ((with_reducible show intB _ _ = _); rfl) | ((with_reducible show intX _ _ = _); rfl) | ((with_reducible show anyX _ _ = _); rfl) | ((with_reducible show sumB _ _ = _); rfl) | ((with_reducible show minB _ _ = _); rfl) | ((with_reducible show maxB _ _ = _); rfl) | ((with_reducible show listB _ _ = _); rfl) | ((with_reducible show listM _ _ = _); rfl) | ((with_reducible show tupleB _ _ = _); rfl) | ((with_reducible show sortX _ _ = _); rfl) | ((with_reducible show sortY _ _ = _); rfl) | ((with_reducible show anyB _ _ _ = _); rfl) | ((with_reducible show List.length _ < 1000); first | exact of_decide_eq_true rfl | omega | (simp only [List.length_map]; omega)) | ((with_reducible show _ ≤ 16777216); first | exact of_decide_eq_true rfl | omega | (simp only [List.length_map]; omega)) | ((with_reducible show ∀ _, srcAt _ _ _ = _); exact fun _ => rfl) | ((with_reducible show agN _ _ _ = _); (simp only [agN, agT, agCons, agNil, wipeE, List.foldl, List.length_cons, List.length_nil, Nat.reduceAdd, Nat.zero_add, Nat.beq, List.set_cons_zero, List.set_cons_succ]) <;> rfl) | ((with_reducible show agT _ _ _ _ = _); (simp only [agN, agT, agCons, agNil, wipeE, List.foldl, List.length_cons, List.length_nil, Nat.reduceAdd, Nat.zero_add, Nat.beq, List.set_cons_zero, List.set_cons_succ]) <;> rfl) | ((with_reducible show List.set _ _ _ = _); (simp only [agN, agT, agCons, agNil, wipeE, List.foldl, List.length_cons, List.length_nil, Nat.reduceAdd, Nat.zero_add, Nat.beq, List.set_cons_zero, List.set_cons_succ]) <;> rfl) | ((with_reducible show wipeE _ _ = _); (simp only [agN, agT, agCons, agNil, wipeE, List.foldl, List.length_cons, List.length_nil, Nat.reduceAdd, Nat.zero_add, Nat.beq, List.set_cons_zero, List.set_cons_succ]) <;> rfl))) fuel 0 [] (by show (izs ns).length < 0 + 1000000; simp; omega) (Nat.zero_le _) (Nat.le_refl _) (by simp; omega)
    unfold mLcM
    rw [i_scr (e_var (t := .scr ns) rfl)]
    simp only [Rs.bind]
    rw [show wipeE [some (.scr ns), none, none] [2] = [some (.scr ns), none, none] from rfl, this, List.drop_zero, great_eq, List.nil_append]
    rfl
  have e2 : mLc (mIA (mVar 0)) [2] (agN 2) mYes (mCB absB (mCons (mVar 2) mNil)) [some (.scr ns), some (.ref 1), none] [.tbl 0, .lst (izs (greatOf ns))] = .ok (.lst (izs (ns.map fun c => (c.natAbs : Int)))) [.tbl 0, .lst (izs (greatOf ns))] := by
    rw [lc_map (src := .scr ns) (xs := izs ns) (f := fA) (st1 := [.tbl 0, .lst (izs (greatOf ns))]) (σ0 := [some (.scr ns), some (.ref 1), none]) (i_scr (e_var rfl)) srcAt_scr rfl (by simp; omega) (by
      intro t ht
      obtain ⟨c, _, rfl⟩ := List.mem_map.mp ht
      have a := a c [.tbl 0, .lst (izs (greatOf ns))]
      exact ⟨_, rfl, by unfold fA; repeat' (first | ((with_reducible show _ = _); with_reducible assumption) | ((with_reducible apply e_var); rfl) | with_reducible apply e_c | with_reducible apply e_nil | with_reducible apply e_d0 | with_reducible apply e_partN | with_reducible apply s_next | with_reducible apply s_raise0 | with_reducible apply e_cons | with_reducible apply e_tup | with_reducible apply e_lst | with_reducible apply e_lstM | with_reducible apply e_op | with_reducible apply e_un | with_reducible apply e_tst | with_reducible apply e_not | with_reducible apply e_notV | with_reducible apply e_neg | with_reducible apply e_or | with_reducible apply e_and | with_reducible apply e_andV | with_reducible apply e_if | with_reducible apply e_partS | with_reducible apply e_sl | with_reducible apply e_call | with_reducible apply e_callK | with_reducible apply e_cb | with_reducible apply e_met | with_reducible apply e_chain | with_reducible apply e_meth | with_reducible apply s_seq | with_reducible apply s_expr | with_reducible apply s_ret | with_reducible apply s_if | with_reducible apply s_set | with_reducible apply s_par | with_reducible apply s_asg | with_reducible apply s_dput | with_reducible apply s_setIx | with_reducible apply s_putF | with_reducible apply s_raiseX | with_reducible apply e_ex | with_reducible apply i_ia | with_reducible apply e_tupRg | with_reducible apply i_r1 | with_reducible apply e_lc | with_reducible apply e_lcM | with_reducible apply l_ex | with_reducible apply s_for | ((with_reducible apply l_0); focus rfl) | ((with_reducible apply f_0); focus rfl) | ((with_reducible apply l_1); focus rfl) | ((with_reducible apply f_1); focus rfl) | ((with_reducible refine Or.inl ⟨?_, ?_⟩); focus (first | rfl | with_reducible assumption | ((with_reducible apply not_t); with_reducible assumption) | ((with_reducible apply not_f); with_reducible assumption) | decide)) | ((with_reducible refine Or.inr ⟨?_, ?_⟩); focus (first | rfl | with_reducible assumption | ((with_reducible apply not_t); with_reducible assumption) | ((with_reducible apply not_f); with_reducible assumption) | decide)) | ((with_reducible show addT _ _ _ = _); rfl) | ((with_reducible show subT _ _ _ = _); rfl) | ((with_reducible show mulT _ _ _ = _); rfl) | ((with_reducible show fdivT _ _ _ = _); rfl) | ((with_reducible show modT _ _ _ = _); rfl) | ((with_reducible show powT _ _ _ = _); rfl) | ((with_reducible show eqT _ _ _ = _); rfl) | ((with_reducible show neT _ _ _ = _); rfl) | ((with_reducible show ltT _ _ _ = _); rfl) | ((with_reducible show ixT _ _ _ = _); rfl) | ((with_reducible show dgetT _ _ _ = _); rfl) | ((with_reducible show cmpI _ _ _ _ = _); rfl) | ((with_reducible show isN _ _ _ _ = _); rfl) | ((with_reducible show inT _ _ _ _ = _); rfl) | ((with_reducible show dinT _ _ _ _ = _); rfl) | ((with_reducible show slT _ _ _ _ = _); rfl) | ((with_reducible show fldT _ _ _ _ = _); rfl) | ((with_reducible show xfldT _ _ _ _ = _); rfl) | ((with_reducible show popAtT _ _ _ = _); rfl) | ((with_reducible show appendT _ _ _ = _); rfl) | ((with_reducible show putO _ _ _ _ _ = _); rfl) | ((with_reducible show setT _ _ _ _ = _); rfl) | ((with_reducible show dputT _ _ _ _ = _); rfl) | ((with_reducible show insT _ _ = _); rfl) | ((with_reducible show lookF _ _ _ = _); rfl) | ((with_reducible show Nat.beq _ _ = _); rfl) | ((with_reducible show permT _ _ = _); rfl) | ((with_reducible show isL _ _ = _); rfl) | ((with_reducible show isiB _ _ _ = _); rfl) | ((with_reducible show WR.sizeOk _ = _); rfl) | ((with_reducible show List.length _ = _); rfl) | ((with_reducible show getElem? _ _ = _); rfl) | ((with_reducible show (_ :: _) = _); rfl) | ((with_reducible show (_ ++ _) = _); rfl) | ((with_reducible show dictB _ _ _ = _); rfl) | ((with_reducible show sortB _ _ _ = _); rfl) | ((with_reducible show Rs.ok _ _ = _); rfl) | ((with_reducible show RsS.ok _ _ = _); rfl) | ((with_reducible show Rs.exc _ _ = _); rfl) | ((with_reducible show RsS.exc _ _ _ = _); rfl) | ((with_reducible show srcAt _ _ _ = _); rfl) | ((with_reducible show mYes _ _ = _); rfl) | ((with_reducible show subW _ = _); rfl) | ((with_reducible show sub _ = _); rfl) | ((with_reducible show iaOf _ _ = _); rfl) | ((with_reducible show rngOk _ = _); rfl) | ((with_reducible show _ + 1 = _); rfl) | ((with_reducible show (!_) = _); rfl) | ((with_reducible show [] = _); rfl) | ((with_reducible show lenB _ _ = _); rfl) | ((with_reducible show absB _ _ = _); rfl) | ((with_reducible show intB _ _ = _); rfl) | ((with_reducible show intX _ _ = _); rfl) | ((with_reducible show anyX _ _ = _); rfl) | ((with_reducible show sumB _ _ = _); rfl) | ((with_reducible show minB _ _ = _); rfl) | ((with_reducible show maxB _ _ = _); rfl) | ((with_reducible show listB _ _ = _); rfl) | ((with_reducible show listM _ _ = _); rfl) | ((with_reducible show tupleB _ _ = _); rfl) | ((with_reducible show sortX _ _ = _); rfl) | ((with_reducible show sortY _ _ = _); rfl) | ((with_reducible show anyB _ _ _ = _); rfl) | ((with_reducible show List.length _ < 1000); first | exact of_decide_eq_true rfl | omega | (simp only [List.length_map]; omega)) | ((with_reducible show _ ≤ 16777216); first | exact of_decide_eq_true rfl | omega | (simp only [List.length_map]; omega)) | ((with_reducible show ∀ _, srcAt _ _ _ = _); exact fun _ => rfl) | ((with_reducible show agN _ _ _ = _); (simp only [agN, agT, agCons, agNil, wipeE, List.foldl, List.length_cons, List.length_nil, Nat.reduceAdd, Nat.zero_add, Nat.beq, List.set_cons_zero, List.set_cons_succ]) <;> rfl) | ((with_reducible show agT _ _ _ _ = _); (simp only [agN, agT, agCons, agNil, wipeE, List.foldl, List.length_cons, List.length_nil, Nat.reduceAdd, Nat.zero_add, Nat.beq, List.set_cons_zero, List.set_cons_succ]) <;> rfl) | ((with_reducible show List.set _ _ _ = _); (simp only [agN, agT, agCons, agNil, wipeE, List.foldl, List.length_cons, List.length_nil, Nat.reduceAdd, Nat.zero_add, Nat.beq, List.set_cons_zero, List.set_cons_succ]) <;> rfl) | ((with_reducible show wipeE _ _ = _); (simp only [agN, agT, agCons, agNil, wipeE, List.foldl, List.length_cons, List.length_nil, Nat.reduceAdd, Nat.zero_add, Nat.beq, List.set_cons_zero, List.set_cons_succ]) <;> rfl))⟩)]
    congr 2
    simp only [izs, List.map_map]
    rfl
  unfold m_l_begun
  apply def_rt'; ((simp only [List.map_cons, List.map_nil, List.length_cons, List.length_nil, Nat.zero_add, Nat.reduceAdd, Nat.reduceSub, List.replicate_succ, List.replicate_zero, List.cons_append, List.nil_append]) <;> rfl)
  unfold b_l_begun
  refine s_seq (σ1 := [some (.scr ns), some (.ref 1), none]) (st1 := [.tbl 0, .lst (izs (greatOf ns))]) (s_set e1 rfl) (s_ret ?_)
  have e3 : mDisp true (mPc (mC (.str "great")) (mVar 1) (mPc (mC (.str "cells")) (mLc (mIA (mVar 0)) [2] (agN 2) mYes (mCB absB (mCons (mVar 2) mNil))) (mPc (mC (.str "rest")) (mC (.int 0)) (mPc (mC (.str "turn")) (mC (.int 0)) mP0)))) [some (.scr ns), some (.ref 1), none] [.tbl 0, .lst (izs (greatOf ns))] = _ :=
    e_disp (kts := [(.inr "great", .ref 1), (.inr "cells", .lst (izs (ns.map fun c => (c.natAbs : Int)))), (.inr "rest", .int 0), (.inr "turn", .int 0)]) (p_c e_c (e_var (t := .ref 1) rfl) (p_c e_c e2 (p_c e_c e_c (p_c e_c e_c p_0)))) rfl rfl
  exact e3
end G08
namespace G08
open PySem L2 WR
/-! ### the whole law -/
abbrev Xs (i : Nat) : List O := List.replicate i (.lst (cs 28))
theorem cloX : ∀ i, Clo (Xs i)
  | 0 => Clo.nil
  | i + 1 => by
    have e : Xs (i + 1) = Xs i ++ [.lst (cs 28)] := List.replicate_succ'
    rw [e]
    exact cloW (cloX i) (by decide)
def LawEnv (ns : List Int) (σ : Ev) : Prop := ∃ vs : List (Option T), vs.length = 9 ∧ σ = some (.scr ns) :: some (.ref 2) :: vs
abbrev lawIt : M Src := (mIR1 (mCons (mOp addT (mC (.int 3)) (mCB minB (mCons (mCB lenB (mCons (mVar 0) mNil)) (mCons (mC (.int 4)) mNil)))) mNil))
theorem law_true (ns : List Int) (hn : ns.length ≤ 63) : ∃ st, m_law [.scr ns] [.tbl 0] = .ok (.bl true) st := by
  have e0 := begun_ok hn
  generalize hs0 : (⟨greatOf ns, ns.map fun c => (c.natAbs : Int), 0, 0⟩ : SP) = s0 at e0
  have h0 : Ok 999999999 s0 := by
    subst hs0
    refine ⟨?_, by simpa using hn, ?_, ?_, by simp, by simp, by simp⟩
    · have := List.length_filter_le (fun c : Int => decide ((10 : Int) ^ 18 ≤ c.natAbs)) ns
      simp only [greatOf, List.length_map]
      omega
    · intro z hz
      obtain ⟨c, hc, rfl⟩ := List.mem_map.mp hz
      have := of_decide_eq_true (List.mem_filter.mp hc).2
      omega
    · intro z hz
      obtain ⟨c, hc, rfl⟩ := List.mem_map.mp hz
      omega
  obtain ⟨j, hj, j0, j7⟩ : ∃ j : Int, (∀ σ st, σ[0]? = some (some (.scr ns)) → (mCons (mOp addT (mC (.int 3)) (mCB minB (mCons (mCB lenB (mCons (mVar 0) mNil)) (mCons (mC (.int 4)) mNil)))) mNil) σ st = .ok [.int j] st) ∧ 3 ≤ j ∧ j ≤ 7 := by
    have hm : ∀ st, minB [.int ns.length, .int 4] st = .ok (.int (if (4 : Int) < (ns.length : Int) then (4 : Int) else (ns.length : Int))) st := fun st => rfl
    refine ⟨3 + (if (4 : Int) < (ns.length : Int) then (4 : Int) else (ns.length : Int)), fun σ st hσ => ?_, by split <;> omega, by split <;> omega⟩
    have hm := hm st
    refine e_cons (e_op e_c (e_cb (e_cons (e_cb (e_cons (e_var hσ) e_nil) rfl) (e_cons e_c e_nil)) hm) rfl) e_nil
  have hr : rngOk j = true := by
    unfold rngOk
    rw [decide_eq_true (by omega), decide_eq_true (by omega)]
    rfl
  obtain ⟨σ', st', e, s', rfl, _, _⟩ := mFor_inv (src := .rng 0 j.toNat) (xs := rgT j.toNat) srcAt_rng (g := agN 2) (body := lawBody) (it := lawIt)
    (σ := [some (.scr ns), some (.ref 2), none, none, none, none, none, none, none, none, none]) (st := B s0 [])
    (fun i σ st => ∃ s, st = B s (Xs i) ∧ LawEnv ns σ ∧ Ok (7 * (10 - i)) s)
    (ir_aux (hj _ _ rfl) hr) (by simp [rgT]; omega) ⟨_, rfl, ⟨_, rfl, rfl⟩, h0.mono (by omega)⟩ (by
      rintro i t σ st hx ⟨s, rfl, ⟨vs, hl, rfl⟩, hs⟩
      have hi : i < j.toNat := by
        have := (List.getElem?_eq_some_iff.mp hx).1
        simpa [rgT] using this
      match vs, hl with
      | [a2, a3, a4, a5, a6, a7, a8, a9, a10], _ =>
        obtain ⟨a, b, l, d, s2, e, h2⟩ := lap (n := 7 * (10 - (i + 1))) (s := s) (X := Xs i) (v0 := some (.scr ns)) (v2 := some t) (v3 := a3) (v4 := a4) (v5 := a5) (v6 := a6) (v7 := a7) (v8 := a8) (v9 := a9) (v10 := a10) (by
          have e : 7 * (10 - i) = 7 * (10 - (i + 1)) + 7 := by omega
          rw [← e]; exact hs) (cloX i)
        refine ⟨_, _, _, rfl, e, s2, ?_, ⟨_, rfl, rfl⟩, h2⟩
        show B s2 (Xs i ++ [.lst (cs 28)]) = B s2 (Xs (i + 1))
        rw [show Xs (i + 1) = Xs i ++ [.lst (cs 28)] from List.replicate_succ'])
  refine ⟨B s' (Xs (rgT j.toNat).length), ?_⟩
  clear hs0 h0 hj
  unfold m_law
  apply def_rt'; ((simp only [List.map_cons, List.map_nil, List.length_cons, List.length_nil, Nat.zero_add, Nat.reduceAdd, Nat.reduceSub, List.replicate_succ, List.replicate_zero, List.cons_append, List.nil_append]) <;> rfl)
  unfold b_law
  refine s_seq (σ1 := [some (.scr ns), some (.ref 2), none, none, none, none, none, none, none, none, none]) (st1 := B s0 []) (s_set (e_call (e_cons (e_var rfl) e_nil) rfl e0) rfl) ?_
  exact s_seq e (s_ret e_c)
end G08
namespace G08
open PySem PySem.Spec PyProof.Rows L2 WR
theorem facts {l : PySem.W.OpenLaw} {w : World} {K : PySem.W.Frag} {h : Heap} {mg : Str → Option Value} {f : Addr} (lawT : ∀ ns : List Int, ns.length ≤ 63 → (∀ z ∈ ns, Builtin.Int.intBits z ≤ 1048576) → ∃ st, m_law [.scr ns] [.tbl 0] = .ok (.bl true) st)
    (X : K.In h) (G : h.Ns mainGlobals mg) (hfa : mg ("law" : Str) = some (.ref f)) (c : He.SaysX fa fn [] [("law", none)] ex w h K) : LamX.LawAtS l w K (L2.CX l.prog w) 20 63 "script" mg f h := by
  have Z : Fx K mg h := ⟨c.t.d, X, G, c.more⟩
  have e : f = He.fAd K ("law", none) := by
    have e1 := hfa.symm.trans Z.g_law
    cases e1; rfl
  subst e
  obtain ⟨fd, F⟩ := Z.c.def_ 63 (d := d_law) rfl
  have b := FunD.bindsA (ps := ["script"]) F fun _ _ _ _ _ _ us hl => match us, hl with | [_], _ => rfl
  have one : ∀ p ∈ [He.cT K ("law", none)], p = He.cT K ("law", none) := fun p hp => List.mem_singleton.mp hp
  refine ⟨fd, [He.cT K ("law", none)], (fun vs H Q E => ∀ Λ, spOf (gam w K Λ) 1 m_law vs H Q E), fun p hp => ?_, fun p hp => ?_, fun p hp => ?_, fun s u => b s [u] rfl, fun H a ns hl hb hT hS => ?_, fun base XB GB tb => ?_⟩
  · rw [one p hp]; exact c.empty _ List.mem_cons_self
  · rw [one p hp]; exact c.out _ List.mem_cons_self
  · rw [one p hp]; exact PySem.W.codeHd_of_K X (c.hd _ List.mem_cons_self)
  · intro Λ
    obtain ⟨st, q⟩ := lawT ns hl hb
    have tP : H (He.cT K ("law", none)).2 = some (.tbl #[]) := hT _ List.mem_cons_self
    have s : SR (gam w K Λ) [] [(He.cT K ("law", none)).2] H [.tbl 0] := {
      rs := ⟨rfl, by simp, fun n o a e1 e2 => by
        cases n with
        | zero =>
          simp at e1 e2
          subst e1; subst e2
          exact ⟨rfl, #[], tP, True.intro, fun pos cv hc => by
            have z : codeAmong pos [] = some cv := hc
            simp [codeAmong] at z⟩
        | succ n => simp at e1⟩
      trk := fun a z => nomatch z
      dis := fun a z => nomatch z }
    refine ⟨[.scr ns], [], [(He.cT K ("law", none)).2], [.tbl 0], s, ⟨.ref a, [], rfl, ⟨a, rfl, ?_⟩, rfl⟩, rfl, ?_⟩
    · rcases hS with hS | hS
      · refine .inl ⟨fun z => (nomatch z), fun z => ?_, hS⟩
        have ea := List.mem_singleton.mp z
        rcases hS with hS | ⟨o, hS⟩ <;> rw [ea, tP] at hS <;> cases hS
      · exact .inr hS
    · rw [q]
      exact fun v H' ρ' _ r => r
  · have ZB : Fx K mg base := ⟨c.t.d, XB, GB, c.more⟩
    obtain ⟨fd2, G2, F2⟩ := ok_law (P := l.prog) (w := w) ZB (tb _ List.mem_cons_self)
    have same : fd2 = fd := by
      obtain ⟨oc, od, dV, kV, doc, pm, an, cdv, ct, osl, e1, lk, _⟩ := F.ex
      obtain ⟨oc2, od2, dV2, kV2, doc2, pm2, an2, cdv2, ct2, osl2, e2, lk2, _⟩ := F2.ex
      have lk : K.lookup (He.fAd K ("law", none)) = _ := lk
      rw [lk] at lk2
      injection lk2 with z
      injection z with _ _ z _
      injection z with z
      exact z.symm
    subst same
    exact G2
end G08
open PySem PySem.W PySem.Calls PyProof.Rows
theorem G08.holds_of (lawT : ∀ ns : List Int, ns.length ≤ 63 → (∀ z ∈ ns, Builtin.Int.intBits z ≤ 1048576) → ∃ st, G08.m_law [.scr ns] [.tbl 0] = .ok (.bl true) st) : PySem.Challenge.rw_wishregions_k08_refusals_of_cells.Holds := by
  w_on; o_law
  refine HandSHeadRun.head_any (r := OpenLaw.row PySem.Challenge.rw_wishregions_k08_refusals_of_cells) (q := view (OpenLaw.row PySem.Challenge.rw_wishregions_k08_refusals_of_cells).prog [83]) (H := G08.hk) (ob := G08.ob) (M := 20000) (loose := G08.loose) (d := HandSHeadRun.topDef (OpenLaw.row PySem.Challenge.rw_wishregions_k08_refusals_of_cells).prog 83) (kwd := []) G08.ob_eq
    (by kernel_rfl) (fun s => by kernel_rfl) G08.run (by kernel_rfl) (by kernel_rfl) (by kernel_rfl) (by rfl) (by first | assumption | decide +kernel) (by decide +kernel) ⟨rfl, rfl, rfl, rfl, rfl, by decide +kernel⟩ ?hw ?hc
  case hw => w_witness2
  case hc =>
    refine LamX.walk_ofTsE (l := PySem.Challenge.rw_wishregions_k08_refusals_of_cells) (n := 63) (k := 20) (x := "script") (CX := fun w => L2.CX (PySem.Challenge.rw_wishregions_k08_refusals_of_cells).prog w) rfl (by decide) (by kernel_rfl) ⟨rfl, by decide, by decide⟩ ?F (fun _ _ _ _ _ ⟨_, _, _, _, _, _, _, _, _, _, _, _, z⟩ => z)
    intro w mg fa h Y G hmg0
    obtain ⟨K, KX, c⟩ := Y
    have hmg : mg ("law" : PySem.Str) = some (.ref fa) := by
      have e : (HandSHeadRun.topDef (OpenLaw.row PySem.Challenge.rw_wishregions_k08_refusals_of_cells).prog 83).name = ("law" : PySem.Str) := by kernel_rfl
      rw [← e]
      exact hmg0
    exact ⟨K, KX, G08.facts lawT KX G hmg c⟩
theorem PySem.Challenge.cw_wishregions_k08_refusals_of_cells_holds : PySem.Challenge.rw_wishregions_k08_refusals_of_cells.Holds :=
  G08.holds_of fun ns h _ => G08.law_true ns h
