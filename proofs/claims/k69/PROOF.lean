import PyProof.Rows.All
import Wide.All
import OpenK.AllK
import Wide.FinOn
import HandS.ForExc
import HandS.Comp
import HandS.Dict
import HandS.Iter
import HandS.Lambda
import KE.KDictKeyed
import HandS.Flow
import HandS.Wide
import HandS.TupAny
import HandS.Deep
import HandS.IsInst
import HandS.TupLen
import HandS.Zip
import KE.GoesEnum
import HandS.CallSlots
import HandS.Defaults
import HandS.ExcInit
import HandS.TryMany
import HandS.OwnEq
import HandS.DictComp
import HandS.Conv
import HandS.ListItems
import KE.SortData
import PyProof.ReprRoads
import HandS.HeadWalk
import HandS.Head0
import HandS.Head1
import HandS.Head2
import HandS.HeadEnd
import HandS.HeadHook1
import HandS.HeadHook2
import HandS.NamedTupSort
import PyProof.InstNe
import KE.KRevSl
import PyProof.Rows.EqMixed
import PyProof.InstSpecial
import HandS.Style
import PyProof.Rows.TupIn
import HandS.SetFor
import HandS.Strs
import HandS.SetKeys
import KE.DataCmp
import PySem.Challenge.RW_anyaround_k69_whole_stairs_whatever_is_a
section
set_option Elab.async false
set_option linter.all false
set_option autoImplicit false
set_option maxRecDepth 100000
set_option maxHeartbeats 4000000
/-! AM: an abstract machine over the hand layer: values with tuples as data, a heap by numbers, computations as plain functions. -/
namespace AM
open PySem PySem.Spec L2

/-! ### values, heaps, results -/
inductive AV where
  | non | bl (b : Bool) | int (i : Int) | str (s : Str)
  | tup (xs : List AV) | ref (i : Nat) | glo (x : Str) | ty (n : String)
  deriving Inhabited
inductive AO where
  | lst (xs : List AV) | dct (kvs : List (AV × AV)) | ins (c : Str) (fs : List (Str × AV)) | frz (xs : List AV)
  deriving Inhabited
abbrev AH := List AO
inductive R (α : Type) where
  | ok (a : α) (M : AH)
  | exc (c : Str) (fs : List (Str × AV)) (M : AH)
  | bad
def R.bind {α β : Type} (r : R α) (k : α → AH → R β) : R β := match r with
  | .ok a M => k a M
  | .exc c fs M => .exc c fs M
  | .bad => .bad
@[simp] theorem R.bind_ok {α β : Type} (a : α) (M : AH) (k : α → AH → R β) : (R.ok a M).bind k = k a M := rfl
@[simp] theorem R.bind_exc {α β : Type} (c fs M) (k : α → AH → R β) : (R.exc c fs M).bind k = .exc c fs M := rfl
@[simp] theorem R.bind_bad {α β : Type} (k : α → AH → R β) : (R.bad : R α).bind k = .bad := rfl
/-- what a slot holds: a value, a closure that was handed in (by what a call of it computes; the room it asks for), an exception -/
inductive SV where
  | val (a : AV) | clo (k : Nat) (F : List AV → AH → R AV) | exc (c : Str) (fs : List (Str × AV)) | scr (ns : List Int)
instance : Inhabited SV := ⟨.val .non⟩
abbrev Loc := List (Option SV)
abbrev CE := Loc → AH → R AV
abbrev CT := Loc → AH → R Bool
abbrev CA := Loc → AH → R (List AV)
/-- a statement's end -/
inductive RS where
  | nx (vs : Loc) (M : AH) | rt (a : AV) (M : AH) | bk (vs : Loc) (M : AH) | ct (vs : Loc) (M : AH)
  | exc (c : Str) (fs : List (Str × AV)) (vs : Loc) (M : AH) | bad
abbrev CS := Loc → AH → RS

/-! ### the relation to the hand layer's heap -/
structure Cfg where
  K : PySem.W.Frag
  mg : Str → Option Value
  P : Program
  w : World
  base : Heap
  T : List (Addr × Str)
mutual
def VR (κ : Cfg) (ι : List Addr) (H : Hp) : AV → V → Prop
  | .non, v => v = .non
  | .bl b, v => v = .bl b
  | .int i, v => v = .int i
  | .str s, v => v = .str s
  | .ref i, v => ∃ a, ι[i]? = some a ∧ v = .ref a
  | .glo x, v => ∃ f, κ.mg x = some (.ref f) ∧ v = .ref f
  | .ty n, v => v = .ty n
  | .tup xs, v => ∃ a vs, v = .ref a ∧ SqT κ.K H a vs ∧ VRs κ ι H xs vs
def VRs (κ : Cfg) (ι : List Addr) (H : Hp) : List AV → List V → Prop
  | [], vs => vs = []
  | x :: xs, vs => ∃ v ws, vs = v :: ws ∧ VR κ ι H x v ∧ VRs κ ι H xs ws
end
/-- what never changes is kept -/
structure Keep (H H' : Hp) : Prop where
  tup : ∀ a xs, H a = some (.tup xs) → H' a = some (.tup xs)
  frz : ∀ a o u, H a = some (.frz o u) → H' a = some (.frz o u)
/-- the table of code objects at P: those that it tells stand fast and bear the name q -/
def TabF (H : Hp) (P : Addr) (q : Str) : Prop := ∃ ps : Array Value, H P = some (.tbl ps) ∧ TriplesOk ps.toList ∧ ∀ (pos : Pos) (cv : Value), codeAmong pos ps.toList = some cv → ∃ c o, cv = .ref c ∧ H c = some (.frz o (LamX.CodeO c q))
theorem Keep.refl (H : Hp) : Keep H H := ⟨fun _ _ h => h, fun _ _ _ h => h⟩
theorem Keep.trans {H H1 H2 : Hp} (a : Keep H H1) (b : Keep H1 H2) : Keep H H2 := ⟨fun c xs h => b.tup c xs (a.tup c xs h), fun c o u h => b.frz c o u (a.frz c o u h)⟩
theorem Keep.new {H : Hp} {p : Addr} {o : HO} (hp : H p = none) : Keep H (upd H p o) :=
  ⟨fun a xs h => by rw [upd_ne (ne_of_none h hp)]; exact h, fun a o u h => by rw [upd_ne (ne_of_none h hp)]; exact h⟩
theorem Keep.mut {H : Hp} {p : Addr} {o o' : HO} (hp : H p = some o) (h1 : ∀ xs, o ≠ .tup xs) (h2 : ∀ x u, o ≠ .frz x u) : Keep H (upd H p o') :=
  ⟨fun a xs h => by rw [upd_ne (ne_of h hp fun e => h1 xs e.symm)]; exact h, fun a o u h => by rw [upd_ne (ne_of h hp fun e => h2 o u e.symm)]; exact h⟩
theorem Keep.sqT {K : PySem.W.Frag} {H H' : Hp} {a : Addr} {xs : List V} (k : Keep H H') (h : SqT K H a xs) : SqT K H' a xs := by
  rcases h with (h | ⟨o, h⟩) | h
  · exact .inl (.inl (k.tup _ _ h))
  · exact .inl (.inr ⟨o, k.frz _ _ _ h⟩)
  · exact .inr h
theorem TabF.keep {H H' : Hp} {P : Addr} {q : Str} (t : TabF H P q) (k : Keep H H') (e : ∀ ps, H P = some (.tbl ps) → H' P = some (.tbl ps)) : TabF H' P q := by
  obtain ⟨ps, h1, h2, h3⟩ := t
  refine ⟨ps, e _ h1, h2, fun pos cv hc => ?_⟩
  obtain ⟨c, o, e1, e2⟩ := h3 pos cv hc
  exact ⟨c, o, e1, k.frz _ _ _ e2⟩
theorem pre_get {α : Type} {l l' : List α} (h : l <+: l') {i : Nat} {a : α} (e : l[i]? = some a) : l'[i]? = some a := by
  obtain ⟨t, rfl⟩ := h
  obtain ⟨hi, _⟩ := List.getElem?_eq_some_iff.mp e
  rw [List.getElem?_append_left hi]; exact e
mutual
theorem VR.mono {κ : Cfg} {ι ι' : List Addr} {H H' : Hp} (hι : ι <+: ι') (k : Keep H H') : ∀ {a : AV} {v : V}, VR κ ι H a v → VR κ ι' H' a v
  | .non, v, h => by rw [VR] at h ⊢; exact h
  | .bl b, v, h => by rw [VR] at h ⊢; exact h
  | .int i, v, h => by rw [VR] at h ⊢; exact h
  | .str s, v, h => by rw [VR] at h ⊢; exact h
  | .ref i, v, h => by
    rw [VR] at h ⊢
    obtain ⟨a, e, r⟩ := h
    exact ⟨a, pre_get hι e, r⟩
  | .glo x, v, h => by rw [VR] at h ⊢; exact h
  | .ty n, v, h => by rw [VR] at h ⊢; exact h
  | .tup xs, v, h => by
    rw [VR] at h ⊢
    obtain ⟨a, vs, e, q, r⟩ := h
    exact ⟨a, vs, e, k.sqT q, VRs.mono hι k r⟩
theorem VRs.mono {κ : Cfg} {ι ι' : List Addr} {H H' : Hp} (hι : ι <+: ι') (k : Keep H H') : ∀ {xs : List AV} {vs : List V}, VRs κ ι H xs vs → VRs κ ι' H' xs vs
  | [], vs, h => by rw [VRs] at h ⊢; exact h
  | x :: xs, vs, h => by
    rw [VRs] at h ⊢
    obtain ⟨v, ws, e, r, q⟩ := h
    exact ⟨v, ws, e, VR.mono hι k r, VRs.mono hι k q⟩
end
section
variable {κ : Cfg} {ι : List Addr} {H : Hp}
theorem VRs.nil : VRs κ ι H [] [] := by rw [VRs]
theorem VRs.cons {x : AV} {v : V} {xs : List AV} {vs : List V} (h : VR κ ι H x v) (t : VRs κ ι H xs vs) : VRs κ ι H (x :: xs) (v :: vs) := by
  rw [VRs]; exact ⟨v, vs, rfl, h, t⟩
theorem VRs.cons_inv {x : AV} {xs : List AV} {vs : List V} (h : VRs κ ι H (x :: xs) vs) : ∃ v ws, vs = v :: ws ∧ VR κ ι H x v ∧ VRs κ ι H xs ws := by rw [VRs] at h; exact h
theorem VRs.nil_inv {vs : List V} (h : VRs κ ι H [] vs) : vs = [] := by rw [VRs] at h; exact h
theorem VRs.length : ∀ {xs : List AV} {vs : List V}, VRs κ ι H xs vs → xs.length = vs.length
  | [], vs, h => by rw [h.nil_inv]; rfl
  | x :: xs, vs, h => by
    obtain ⟨v, ws, rfl, _, t⟩ := h.cons_inv
    simp [VRs.length t]
theorem VRs.get : ∀ {xs : List AV} {vs : List V} {i : Nat} {x : AV}, VRs κ ι H xs vs → xs[i]? = some x → ∃ v, vs[i]? = some v ∧ VR κ ι H x v
  | [], _, _, _, _, e => by simp at e
  | y :: xs, vs, i, x, h, e => by
    obtain ⟨v, ws, rfl, r, t⟩ := h.cons_inv
    cases i with
    | zero => simp at e; subst e; exact ⟨v, rfl, r⟩
    | succ i => simpa using VRs.get t (i := i) (by simpa using e)
theorem VRs.app : ∀ {xs ys : List AV} {vs ws : List V}, VRs κ ι H xs vs → VRs κ ι H ys ws → VRs κ ι H (xs ++ ys) (vs ++ ws)
  | [], ys, vs, ws, h, t => by rw [h.nil_inv]; exact t
  | x :: xs, ys, vs, ws, h, t => by
    obtain ⟨v, us, rfl, r, q⟩ := h.cons_inv
    exact .cons r (VRs.app q t)
theorem VRs.take : ∀ (n : Nat) {xs : List AV} {vs : List V}, VRs κ ι H xs vs → VRs κ ι H (xs.take n) (vs.take n)
  | 0, _, _, _ => by simpa using VRs.nil
  | n + 1, [], vs, h => by rw [h.nil_inv]; simpa using VRs.nil
  | n + 1, x :: xs, vs, h => by
    obtain ⟨v, us, rfl, r, q⟩ := h.cons_inv
    exact .cons r (VRs.take n q)
theorem VRs.drop : ∀ (n : Nat) {xs : List AV} {vs : List V}, VRs κ ι H xs vs → VRs κ ι H (xs.drop n) (vs.drop n)
  | 0, _, _, h => by simpa using h
  | n + 1, [], vs, h => by rw [h.nil_inv]; simpa using VRs.nil
  | n + 1, x :: xs, vs, h => by
    obtain ⟨v, us, rfl, r, q⟩ := h.cons_inv
    simpa using VRs.drop n q
theorem VRs.set : ∀ (i : Nat) {x : AV} {v : V} {xs : List AV} {vs : List V}, VR κ ι H x v → VRs κ ι H xs vs → VRs κ ι H (xs.set i x) (vs.set i v)
  | _, _, _, [], vs, _, h => by rw [h.nil_inv]; simpa using VRs.nil
  | 0, x, v, y :: xs, vs, r, h => by
    obtain ⟨v', us, rfl, r', q⟩ := h.cons_inv
    exact .cons r q
  | i + 1, x, v, y :: xs, vs, r, h => by
    obtain ⟨v', us, rfl, r', q⟩ := h.cons_inv
    exact .cons r' (VRs.set i r q)
theorem VRs.erase : ∀ (i : Nat) {xs : List AV} {vs : List V}, VRs κ ι H xs vs → VRs κ ι H (xs.eraseIdx i) (vs.eraseIdx i)
  | _, [], vs, h => by rw [h.nil_inv]; simpa using VRs.nil
  | 0, y :: xs, vs, h => by
    obtain ⟨v', us, rfl, r', q⟩ := h.cons_inv
    exact q
  | i + 1, y :: xs, vs, h => by
    obtain ⟨v', us, rfl, r', q⟩ := h.cons_inv
    exact .cons r' (VRs.erase i q)
theorem VRs.dropLast {xs : List AV} {vs : List V} (h : VRs κ ι H xs vs) : VRs κ ι H xs.dropLast vs.dropLast := by
  rw [List.dropLast_eq_take, List.dropLast_eq_take, h.length]; exact h.take _
theorem VRs.rev : ∀ {xs : List AV} {vs : List V}, VRs κ ι H xs vs → VRs κ ι H xs.reverse vs.reverse
  | [], vs, h => by rw [h.nil_inv]; exact .nil
  | x :: xs, vs, h => by
    obtain ⟨v, us, rfl, r, q⟩ := h.cons_inv
    rw [List.reverse_cons, List.reverse_cons]
    exact (VRs.rev q).app (.cons r .nil)
theorem VRs.none {xs : List AV} {vs : List V} (h : VRs κ ι H xs vs) {i : Nat} (e : xs[i]? = .none) : vs[i]? = .none := by
  rw [List.getElem?_eq_none_iff] at e ⊢
  rw [← h.length]; exact e
end
/-- an instance's fields -/
def FR (κ : Cfg) (ι : List Addr) (H : Hp) (fs : List (Str × AV)) (gs : List (Str × V)) : Prop := fs.map (·.1) = gs.map (·.1) ∧ VRs κ ι H (fs.map (·.2)) (gs.map (·.2))
/-- a dict with flat keys -/
inductive KR : AV → Key → Prop
  | int (i : Int) : KR (.int i) (.inl i)
  | str (s : Str) : KR (.str s) (.inr s)
/- a value as a dict's key -/
mutual
def AV.key : AV → Option NestedKey
  | .non => some .none
  | .bl b => some (.num (if b = true then 1 else 0))
  | .int i => some (.num i)
  | .str s => some (.text s)
  | .tup xs => (AV.keys xs).map .tup
  | .ref _ => none
  | .glo _ => none
  | .ty _ => none
def AV.keys : List AV → Option (List NestedKey)
  | [] => some []
  | x :: xs => match AV.key x, AV.keys xs with
    | some k, some ks => some (k :: ks)
    | _, _ => none
end
/-- at a: a dict whose keys are tuples -/
def NdO (P : Program) (w : World) (a : Addr) (ks : List (NestedKey × Addr × V)) : HO := .ext fun h => (a == sysModules) = false ∧ ks.length ≤ sizeLine ∧ ∃ (o : Obj) (es : Array DictEntry) (ep : Nat) (xs : List (NestedKey × Addr × Value)),
  h.get? a = some o ∧ o.ExactDict ∧ o.data = .dict es ep ∧ es.toList = xs.map (entryOfKey (nestedKind P w)) ∧ Paired (fun (p : NestedKey × Addr × V) (q : NestedKey × Addr × Value) => p.1 = q.1 ∧ p.2.1 = q.2.1 ∧ RelV p.2.2 q.2.2) ks xs ∧ (xs.map (·.1)).Nodup
def TR (κ : Cfg) (ι : List Addr) (H : Hp) (kvs : List (AV × AV)) (ks : List (NestedKey × Addr × V)) : Prop :=
  Paired (fun (p : AV × AV) (q : NestedKey × Addr × V) => p.1.key = some q.1 ∧ VR κ ι H p.1 (.ref q.2.1) ∧ q.1.depth ≤ 8 ∧ VR κ ι H p.2 q.2.2) kvs ks
def DR (κ : Cfg) (ι : List Addr) (H : Hp) (kvs : List (AV × AV)) (gs : List (Key × V)) : Prop := Paired (fun p q => KR p.1 q.1 ∧ VR κ ι H p.2 q.2) kvs gs
/-- what stands at an address -/
def OR (κ : Cfg) (ι : List Addr) (H : Hp) : AO → Addr → Prop
  | .lst xs, a => ∃ vs, H a = some (.lst vs) ∧ VRs κ ι H xs vs
  | .frz xs, a => ∃ o vs, H a = some (.frz o (.lst vs)) ∧ VRs κ ι H xs vs
  | .ins c fs, a => ∃ C dx gs, κ.mg c = some (.ref C) ∧ H a = some (.ins C dx gs) ∧ FR κ ι H fs gs
  | .dct kvs, a => (∃ gs, H a = some (.dK gs) ∧ DR κ ι H kvs gs) ∨ ∃ ks, H a = some (NdO κ.P κ.w a ks) ∧ TR κ ι H kvs ks ∧ kvs ≠ []
structure Rep (κ : Cfg) (ι : List Addr) (M : AH) (H : Hp) : Prop where
  len : ι.length = M.length
  nd : ι.Nodup
  obj : ∀ (i : Nat) (o : AO) (a : Addr), M[i]? = some o → ι[i]? = some a → OR κ ι H o a
  tab : ∀ p ∈ κ.T, TabF H p.1 p.2
/-- an exception's own dict -/
def ExR (κ : Cfg) (ι : List Addr) (H : Hp) (c : Str) (fs : List (Str × AV)) (C : Addr) (d : Option Addr) : Prop :=
  κ.mg c = some (.ref C) ∧ match d with
    | some d => ∃ gs, H d = some (.xd gs) ∧ FR κ ι H fs gs
    | none => fs = []
/-- what is wanted of a call's end -/
def OutF (κ : Cfg) (ι : List Addr) (H : Hp) (Q : VK) (E : XK) : R AV → Prop
  | .ok a M' => ∀ ι' H' v, ι <+: ι' → Keep H H' → Rep κ ι' M' H' → VR κ ι' H' a v → Q v H'
  | .exc c fs M' => ∀ ι' H' C d, ι <+: ι' → Keep H H' → Rep κ ι' M' H' → ExR κ ι' H' c fs C d → E (.ref C) d H'
  | .bad => False
/-- calls of f compute F -/
def CloOk (κ : Cfg) (k : Nat) (ι : List Addr) (H : Hp) (f : Addr) (F : List AV → AH → R AV) : Prop :=
  ∀ (A : Around) (outer : List Env) (s : Shared) (H1 : Hp) (ι1 : List Addr) (M1 : AH) (as : List AV) (us : List Value) (ws : List V) (Q : VK) (E : XK), Room k A → A.guards = some [] → Env0 κ.P κ.w κ.K κ.mg κ.base A outer s H1 → ι <+: ι1 → Keep H H1 → Rep κ ι1 M1 H1 →
    VRs κ ι1 H1 as ws → Vals ws us → OutF κ ι1 H1 Q E (F as M1) → codeAny (model κ.P κ.w) A (.call (.ref f) ⟨us, []⟩) (CR (L2.CX κ.P κ.w) outer κ.P κ.w H1 s Q E) s
/-- what a def keeps -/
structure FnG (κ : Cfg) (k : Nat) (f : Addr) (fd : FuncData) (ps : List Str) (sp : Sp) : Prop where
  len : ∀ vs H Q E, sp vs H Q E → vs.length = ps.length
  run : ∀ (A : Around) (outer : List Env) (s : Shared) (H : Hp) (args : Args) (us : List Value) (vs : List V) (Q : VK) (E : XK), Room k A → A.guards = some [] → Env0 κ.P κ.w κ.K κ.mg κ.base A outer s H → BindsTo s fd args (ps.zip us) → Vals vs us → sp vs H Q E →
    codeAny (model κ.P κ.w) A (.call (.ref f) args) (CR (L2.CX κ.P κ.w) outer κ.P κ.w H s Q E) s
theorem FnG.mono {κ : Cfg} {j k : Nat} {f : Addr} {fd : FuncData} {ps : List Str} {sp : Sp} (F : FnG κ j f fd ps sp) (h : j ≤ k) : FnG κ k f fd ps sp := ⟨F.len, fun A outer s H args us vs Q E hr => F.run A outer s H args us vs Q E (hr.mono h)⟩
/-- a function object stands at f for good -/
def CloAt (κ : Cfg) (H : Hp) (f : Addr) : Prop := (∃ oc od fd sl u, H f = some (.frz ⟨oc, od, .func fd, sl⟩ u)) ∨ ∃ oc od fd sl, κ.K.lookup f = some ⟨oc, od, .func fd, sl⟩
/-- the script: a list of ints that nobody writes -/
def Scr (K : PySem.W.Frag) (H : Hp) (a : Addr) (ns : List Int) : Prop := (∃ o, H a = some (.frz o (.lst (ns.map V.int)))) ∨
  ∃ (o : Obj) (its : Array Value) (n : Nat), K.lookup a = some o ∧ o.cls = .type "list" ∧ o.dict = none ∧ o.data = .seq its n ∧ its.size ≤ sizeLine ∧ Vals (ns.map V.int) its.toList
theorem Scr.sq {K : PySem.W.Frag} {H : Hp} {a : Addr} {ns : List Int} (h : Scr K H a ns) : SqL K H a (ns.map V.int) := h.imp (fun ⟨o, e⟩ => .inr ⟨o, e⟩) id
def SVR (κ : Cfg) (ι : List Addr) (H : Hp) : SV → V → Prop
  | .val a, v => VR κ ι H a v
  | .clo k F, v => ∃ f, v = .ref f ∧ CloAt κ H f ∧ CloOk κ k ι H f F
  | .scr ns, v => ∃ a, v = .ref a ∧ Scr κ.K H a ns
  | .exc c fs, v => ∃ (a : Addr) (oe : Obj) (C : Addr), v = .ref a ∧ H a = some (.frz oe (.own 1)) ∧ oe.cls = .ref C ∧ (∃ vs, oe.data = .fields vs) ∧ κ.mg c = some (.ref C) ∧
    ((oe.dict = none ∧ fs = []) ∨ ∃ (d : Addr) (od : Obj) (gs : List (Str × V)), oe.dict = some d ∧ H d = some (.frz od (.xd gs)) ∧ FR κ ι H fs gs)
structure SLs (κ : Cfg) (ι : List Addr) (H : Hp) (vs : Loc) (σ : St) : Prop where
  len : vs.length = σ.length
  at_ : ∀ (i : Nat) (sv : SV), vs[i]? = some (some sv) → ∃ v, σ[i]? = some (some v) ∧ SVR κ ι H sv v
theorem SVR.mono {κ : Cfg} {ι ι' : List Addr} {H H' : Hp} (hι : ι <+: ι') (k : Keep H H') {sv : SV} {v : V} (h : SVR κ ι H sv v) : SVR κ ι' H' sv v := by
  cases sv with
  | val a => exact VR.mono hι k h
  | clo n F =>
    obtain ⟨f, e, a, c⟩ := h
    exact ⟨f, e, a.imp (fun ⟨oc, od, fd, sl, u, q⟩ => ⟨oc, od, fd, sl, u, k.frz _ _ _ q⟩) id, fun A outer s H1 ι1 M1 as us ws Q E hr gd e0 h1 h2 => c A outer s H1 ι1 M1 as us ws Q E hr gd e0 (hι.trans h1) (k.trans h2)⟩
  | scr ns =>
    obtain ⟨a, e, q⟩ := h
    exact ⟨a, e, q.imp (fun ⟨o, z⟩ => ⟨o, k.frz _ _ _ z⟩) id⟩
  | exc c fs =>
    obtain ⟨a, oe, C, e1, e2, e3, e4, e5, e6⟩ := h
    exact ⟨a, oe, C, e1, k.frz _ _ _ e2, e3, e4, e5, e6.imp id fun ⟨d, od, gs, q1, q2, q3, q4⟩ => ⟨d, od, gs, q1, k.frz _ _ _ q2, q3, q4.mono hι k⟩⟩
theorem SLs.mono {κ : Cfg} {ι ι' : List Addr} {H H' : Hp} (hι : ι <+: ι') (k : Keep H H') {vs : Loc} {σ : St} (h : SLs κ ι H vs σ) : SLs κ ι' H' vs σ :=
  ⟨h.len, fun i sv e => let ⟨v, e', r⟩ := h.at_ i sv e; ⟨v, e', r.mono hι k⟩⟩
/-- the whole state -/
structure Rel (κ : Cfg) (ι : List Addr) (vs : Loc) (M : AH) (σ : St) (H : Hp) : Prop where
  sl : SLs κ ι H vs σ
  rep : Rep κ ι M H
/-! ### readings -/
section
variable (κ : Cfg) (W : WX)
/-- what is wanted behind a computation that began at (ι, H) with the slots vs, σ -/
def Out {α β : Type} (rel : List Addr → Hp → α → β → Prop) (ι : List Addr) (vs : Loc) (σ : St) (H : Hp) (Q : β → Hp → Prop) : R α → Prop
  | .ok a M' => ∀ ι' H' b, ι <+: ι' → Keep H H' → Rel κ ι' vs M' σ H' → rel ι' H' a b → Q b H'
  | .exc c fs M' => ∀ ι' H' C d, ι <+: ι' → Keep H H' → Rel κ ι' vs M' σ H' → ExR κ ι' H' c fs C d → W (.ref C) d σ H'
  | .bad => False
def rd {α β : Type} (rel : List Addr → Hp → α → β → Prop) (c : Loc → AH → R α) : St → Hp → (β → Hp → Prop) → Prop := fun σ H Q =>
  ∃ ι vs M, Rel κ ι vs M σ H ∧ Out κ W rel ι vs σ H Q (c vs M)
abbrev relT : List Addr → Hp → Bool → Bool → Prop := fun _ _ a b => a = b
abbrev rdE (c : CE) : TE := rd κ W (VR κ) c
abbrev rdT (c : CT) : TT := rd κ W relT c
abbrev rdA (c : CA) : TA := rd κ W (VRs κ) c
/-- value-level readings -/
def rd1 (op : AV → AH → R AV) : V → Hp → VK → Prop := fun x H Q => ∃ ι vs M σ a, Rel κ ι vs M σ H ∧ VR κ ι H a x ∧ Out κ W (VR κ) ι vs σ H Q (op a M)
end
section
variable {κ : Cfg} {W : WX} {α α' β β' γ δ : Type} {rel : List Addr → Hp → α → β → Prop} {rel' : List Addr → Hp → α' → β' → Prop}
theorem Out.imp {ι : List Addr} {vs : Loc} {σ : St} {H : Hp} {Q Q' : β → Hp → Prop} {r : R α} (h : Out κ W rel ι vs σ H Q r)
    (k : ∀ ι' H' a b M', ι <+: ι' → Keep H H' → Rel κ ι' vs M' σ H' → rel ι' H' a b → Q b H' → Q' b H') : Out κ W rel ι vs σ H Q' r := by
  cases r with
  | ok a M' => exact fun ι' H' b h1 h2 h3 h4 => k ι' H' a b M' h1 h2 h3 h4 (h ι' H' b h1 h2 h3 h4)
  | exc c fs M' => exact h
  | bad => exact h
/-- one computation, then another one -/
theorem Out.bind {ι : List Addr} {vs : Loc} {σ : St} {H : Hp} {Q : β' → Hp → Prop} {r : R α} {k : α → AH → R α'} (h : Out κ W rel' ι vs σ H Q (r.bind k)) :
    Out κ W rel ι vs σ H (fun b H1 => ∃ ι1 a M1, ι <+: ι1 ∧ Keep H H1 ∧ Rel κ ι1 vs M1 σ H1 ∧ rel ι1 H1 a b ∧ Out κ W rel' ι1 vs σ H1 Q (k a M1)) r := by
  cases r with
  | ok a M' =>
    intro ι' H' b h1 h2 h3 h4
    refine ⟨ι', a, M', h1, h2, h3, h4, ?_⟩
    have h : Out κ W rel' ι vs σ H Q (k a M') := h
    cases hk : k a M' with
    | ok a2 M2 => rw [hk] at h; exact fun ι2 H2 b2 g1 g2 g3 g4 => h ι2 H2 b2 (h1.trans g1) (h2.trans g2) g3 g4
    | exc c fs M2 => rw [hk] at h; exact fun ι2 H2 C d g1 g2 g3 g4 => h ι2 H2 C d (h1.trans g1) (h2.trans g2) g3 g4
    | bad => rw [hk] at h; exact h
  | exc c fs M' => exact h
  | bad => exact h
theorem rd.bind {σ : St} {H : Hp} {Q : β' → Hp → Prop} {c : Loc → AH → R α} {k : Loc → α → AH → R α'} (h : rd κ W rel' (fun vs M => (c vs M).bind (k vs)) σ H Q) :
    rd κ W rel c σ H (fun b H1 => ∃ ι1 vs a M1, Rel κ ι1 vs M1 σ H1 ∧ rel ι1 H1 a b ∧ Out κ W rel' ι1 vs σ H1 Q (k vs a M1)) := by
  obtain ⟨ι, vs, M, R0, o⟩ := h
  refine ⟨ι, vs, M, R0, Out.imp (Out.bind o) fun ι' H' a b M' h1 h2 h3 h4 ⟨ι1, a1, M1, g1, g2, g3, g4, g5⟩ => ⟨ι1, vs, a1, M1, g3, g4, g5⟩⟩
theorem rd.same {σ : St} {H : Hp} {Q : β → Hp → Prop} {c : Loc → AH → R α} {b : β} {ι : List Addr} {vs : Loc} {M : AH} {a : α} (hr : Rel κ ι vs M σ H) (ho : Out κ W rel ι vs σ H Q (.ok a M)) (h : rel ι H a b) : Q b H :=
  ho ι H b (List.prefix_refl _) (Keep.refl _) hr h
end
theorem PE.imp {X : Cx} {e : Expr} {t t' : TE} (h : PE X e t) (k : ∀ σ H Q, t' σ H Q → t σ H Q) : PE X e t' := ⟨fun pins s σ H Q I q => h.run pins s σ H Q I (k σ H Q q)⟩
theorem PT.imp {X : Cx} {e : Expr} {t t' : TT} (h : PT X e t) (k : ∀ σ H Q, t' σ H Q → t σ H Q) : PT X e t' := ⟨fun pins s σ H Q I q => h.run pins s σ H Q I (k σ H Q q)⟩
theorem PA.imp {X : Cx} {e : List Expr} {t t' : TA} (h : PA X e t) (k : ∀ σ H Q, t' σ H Q → t σ H Q) : PA X e t' := ⟨fun pos pins s σ H Q I q => h.run pos pins s σ H Q I (k σ H Q q)⟩
theorem PS.imp {X : Cx} {e : Stmt} {t t' : TS} (h : PS X e t) (k : ∀ D σ H, t' D σ H → t D σ H) : PS X e t' := ⟨fun pins s σ H D I q => h.run pins s σ H D I (k D σ H q)⟩
theorem PSs.imp {X : Cx} {e : List Stmt} {t t' : TS} (h : PSs X e t) (k : ∀ D σ H, t' D σ H → t D σ H) : PSs X e t' := ⟨fun pins s σ H D I q => h.run pins s σ H D I (k D σ H q)⟩
end AM
end

section
set_option Elab.async false
set_option linter.all false
set_option autoImplicit false
set_option maxRecDepth 100000
set_option maxHeartbeats 4000000
/-! AM 2: expressions. -/
namespace AM
open PySem PySem.Spec L2

section
variable {κ : Cfg} {W : WX} {α α' β β' : Type} {rel : List Addr → Hp → α → β → Prop} {rel' : List Addr → Hp → α' → β' → Prop}
theorem rd.imp {σ : L2.St} {H : Hp} {Q Q' : β → Hp → Prop} {c : Loc → AH → R α} (h : rd κ W rel c σ H Q) (k : ∀ b H', Q b H' → Q' b H') : rd κ W rel c σ H Q' := by
  obtain ⟨ι, vs, M, r, o⟩ := h
  exact ⟨ι, vs, M, r, o.imp fun _ _ _ _ _ _ _ _ _ q => k _ _ q⟩
/-- from a state at hand: run c, go on -/
theorem Out.run {ι : List Addr} {vs : Loc} {M : AH} {σ : L2.St} {H : Hp} {Q : β' → Hp → Prop} {c : Loc → AH → R α} {k : α → AH → R α'} {Q1 : β → Hp → Prop} (hr : Rel κ ι vs M σ H)
    (o : Out κ W rel' ι vs σ H Q ((c vs M).bind k))
    (go : ∀ ι1 a M1 b H1, ι <+: ι1 → Keep H H1 → Rel κ ι1 vs M1 σ H1 → rel ι1 H1 a b → Out κ W rel' ι1 vs σ H1 Q (k a M1) → Q1 b H1) : rd κ W rel c σ H Q1 :=
  ⟨ι, vs, M, hr, (Out.bind o).imp fun _ _ _ _ _ _ _ _ _ ⟨ι1, a, M1, h1, h2, h3, h4, h5⟩ => go ι1 a M1 _ _ h1 h2 h3 h4 h5⟩
theorem Out.fin {ι : List Addr} {vs : Loc} {M : AH} {σ : L2.St} {H : Hp} {Q : β → Hp → Prop} {a : α} {b : β} (hr : Rel κ ι vs M σ H) (o : Out κ W rel ι vs σ H Q (.ok a M)) (h : rel ι H a b) : Q b H :=
  o ι H b (List.prefix_refl _) (Keep.refl _) hr h
end
section
variable (κ : Cfg) (W : WX)
def rd2 (op : AV → AV → AH → R AV) : R2 := fun x y H Q => ∃ ι vs M σ a b, Rel κ ι vs M σ H ∧ VR κ ι H a x ∧ VR κ ι H b y ∧ Out κ W (VR κ) ι vs σ H Q (op a b M)
def rdN (op : List AV → AH → R AV) : List V → Hp → VK → Prop := fun xs H Q => ∃ ι vs M σ as, Rel κ ι vs M σ H ∧ VRs κ ι H as xs ∧ Out κ W (VR κ) ι vs σ H Q (op as M)
def rdM (op : AV → List AV → AH → R AV) : V → List V → Hp → VK → Prop := fun x xs H Q => ∃ ι vs M σ a as, Rel κ ι vs M σ H ∧ VR κ ι H a x ∧ VRs κ ι H as xs ∧ Out κ W (VR κ) ι vs σ H Q (op a as M)
end

/-! ### computations -/
def varC (i : Nat) : CE := fun vs M => match vs[i]? with
  | some (some (.val a)) => .ok a M
  | _ => .bad
def conC (a : AV) : CE := fun _ M => .ok a M
def bin2 (op : AV → AV → AH → R AV) (ca cb : CE) : CE := fun vs M => (ca vs M).bind fun a M1 => (cb vs M1).bind fun b M2 => op a b M2
def un1 (op : AV → AH → R AV) (ca : CE) : CE := fun vs M => (ca vs M).bind op
def nilA : CA := fun _ M => .ok [] M
def consA (c : CE) (r : CA) : CA := fun vs M => (c vs M).bind fun a M1 => (r vs M1).bind fun as M2 => .ok (a :: as) M2
def argsC (op : List AV → AH → R AV) (r : CA) : CE := fun vs M => (r vs M).bind op
def methC (op : AV → List AV → AH → R AV) (c : CE) (r : CA) : CE := fun vs M => (c vs M).bind fun a M1 => (r vs M1).bind fun as M2 => op a as M2
def ifC (t : CT) (ca cb : CE) : CE := fun vs M => (t vs M).bind fun b M1 => if b = true then ca vs M1 else cb vs M1
/-- truth -/
def truA (a : AV) (M : AH) : R Bool := match a with
  | .non => .ok false M
  | .bl b => .ok b M
  | .int i => .ok (i != 0) M
  | .str s => if s.length ≤ sizeLine then .ok ((s.length : Int) != 0) M else .bad
  | .tup xs => .ok (!xs.isEmpty) M
  | .ref i => match M[i]? with
    | some (.lst xs) => .ok (!xs.isEmpty) M
    | some (.frz xs) => .ok (!xs.isEmpty) M
    | some (.dct kvs) => .ok (!kvs.isEmpty) M
    | _ => .bad
  | _ => .bad
def truC (c : CE) : CT := fun vs M => (c vs M).bind truA
def andC (a b : CE) : CE := fun vs M => (a vs M).bind fun x M1 => (truA x M1).bind fun k M2 => if k = true then b vs M2 else .ok x M2
def orC (a b : CE) : CE := fun vs M => (a vs M).bind fun x M1 => (truA x M1).bind fun k M2 => if k = true then .ok x M2 else b vs M2
def notC (a : CE) : CE := fun vs M => (a vs M).bind fun x M1 => (truA x M1).bind fun k M2 => .ok (.bl (!k)) M2
def andT (a b : CT) : CT := fun vs M => (a vs M).bind fun k M1 => if k = true then b vs M1 else .ok false M1
def orT (a b : CT) : CT := fun vs M => (a vs M).bind fun k M1 => if k = true then .ok true M1 else b vs M1
def notT (a : CT) : CT := fun vs M => (a vs M).bind fun k M1 => .ok (!k) M1
def tupA (as : List AV) (M : AH) : R AV := if as.length ≤ sizeLine then .ok (.tup as) M else .bad
def lstA (as : List AV) (M : AH) : R AV := if as.length ≤ sizeLine then .ok (.ref M.length) (M ++ [.lst as]) else .bad

/-- the tables of code objects that the law's lambdas are told by -/
class Tb where
  T : List (Addr × Str)
/-! ### the heap's growth -/
section
variable {κ : Cfg} {ι : List Addr} {M : AH} {H : Hp} {vs : Loc} {σ : L2.St}
def HOof : AO → Prop := fun _ => True
theorem OR.mono {ι' : List Addr} {H' : Hp} (hι : ι <+: ι') (k : Keep H H') {o : AO} {a : Addr} (e : H' a = H a) (h : OR κ ι H o a) : OR κ ι' H' o a := by
  cases o with
  | lst xs => obtain ⟨vs, h1, h2⟩ := h; exact ⟨vs, by rw [e]; exact h1, h2.mono hι k⟩
  | frz xs => obtain ⟨o, vs, h1, h2⟩ := h; exact ⟨o, vs, by rw [e]; exact h1, h2.mono hι k⟩
  | ins c fs => obtain ⟨C, dx, gs, h0, h1, h2, h3⟩ := h; exact ⟨C, dx, gs, h0, by rw [e]; exact h1, h2, h3.mono hι k⟩
  | dct kvs =>
    rcases h with ⟨gs, h1, h2⟩ | ⟨ks, h1, h2, hne⟩
    · exact .inl ⟨gs, by rw [e]; exact h1, Paired.mapP h2 fun p q r => ⟨r.1, r.2.mono hι k⟩⟩
    · exact .inr ⟨ks, by rw [e]; exact h1, Paired.mapP h2 fun p q r => ⟨r.1, r.2.1.mono hι k, r.2.2.1, r.2.2.2.mono hι k⟩, hne⟩
theorem OR.there {o : AO} {a : Addr} (h : OR κ ι H o a) : ∃ u, H a = some u := by
  cases o with
  | lst xs => obtain ⟨vs, h1, h2⟩ := h; exact ⟨_, h1⟩
  | frz xs => obtain ⟨o, vs, h1, h2⟩ := h; exact ⟨_, h1⟩
  | ins c fs => obtain ⟨C, dx, gs, h0, h1, h2, h3⟩ := h; exact ⟨_, h1⟩
  | dct kvs =>
    rcases h with ⟨gs, h1, h2⟩ | ⟨ks, h1, h2, hne⟩
    · exact ⟨_, h1⟩
    · exact ⟨_, h1⟩
theorem Rep.idx (r : Rep κ ι M H) {i : Nat} {o : AO} (e : M[i]? = some o) : ∃ a, ι[i]? = some a ∧ OR κ ι H o a := by
  obtain ⟨hi, _⟩ := List.getElem?_eq_some_iff.mp e
  have hi' : i < ι.length := by rw [r.len]; exact hi
  exact ⟨ι[i], List.getElem?_eq_getElem hi', r.obj i o _ e (List.getElem?_eq_getElem hi')⟩
theorem Rep.at_ (r : Rep κ ι M H) {i : Nat} {o : AO} {a : Addr} (e : M[i]? = some o) (ea : ι[i]? = some a) : OR κ ι H o a := r.obj i o a e ea
/-- tuples and the like are new: nothing of ours changes -/
theorem Rep.keep {H' : Hp} (r : Rep κ ι M H) (k : Keep H H') (same : ∀ a u, H a = some u → H' a = H a) : Rep κ ι M H' :=
  ⟨r.len, r.nd, fun i o a e ea => (r.obj i o a e ea).mono (List.prefix_refl _) k (by
    obtain ⟨u, hu⟩ := (r.obj i o a e ea).there
    exact same a u hu), fun p hp => (r.tab p hp).keep k fun ps e => by rw [same _ _ e]; exact e⟩
theorem Rep.fresh {p : Addr} (r : Rep κ ι M H) (hp : H p = none) : p ∉ ι := fun hm => by
  obtain ⟨i, hi⟩ := List.getElem?_of_mem hm
  have hl : i < M.length := by rw [← r.len]; exact (List.getElem?_eq_some_iff.mp hi).1
  obtain ⟨u, hu⟩ := (r.obj i _ p (List.getElem?_eq_getElem hl) hi).there
  rw [hp] at hu; cases hu
/-- a new tuple -/
theorem Rep.other {p : Addr} {o : HO} (r : Rep κ ι M H) (hp : H p = none) : Rep κ ι M (upd H p o) :=
  r.keep (Keep.new hp) fun a u hu => by rw [upd_ne (ne_of_none hu hp)]
/-- a new object of ours -/
theorem Rep.snoc {p : Addr} {u : HO} {o : AO} (r : Rep κ ι M H) (hp : H p = none) (ho : OR κ (ι ++ [p]) (upd H p u) o p) : Rep κ (ι ++ [p]) (M ++ [o]) (upd H p u) := by
  have k : Keep H (upd H p u) := Keep.new hp
  have np := r.fresh hp
  refine ⟨by simp [r.len], ?_, fun i o' a e ea => ?_, fun q hq => (r.tab q hq).keep k fun ps e => by rw [upd_ne (ne_of_none e hp)]; exact e⟩
  · rw [List.nodup_append]
    exact ⟨r.nd, by simp, fun a ha b hb => by
      have : b = p := by simpa using hb
      subst this
      exact fun z => np (z ▸ ha)⟩
  · by_cases hi : i < M.length
    · rw [List.getElem?_append_left hi] at e
      rw [List.getElem?_append_left (by rw [r.len]; exact hi)] at ea
      refine (r.obj i o' a e ea).mono (List.prefix_append _ _) k (upd_ne fun z => np ?_)
      subst z
      exact List.mem_of_getElem? ea
    · have hi' : i = M.length := by
        have := (List.getElem?_eq_some_iff.mp e).1
        simp at this; omega
      subst hi'
      rw [List.getElem?_append_right (Nat.le_refl _)] at e
      rw [List.getElem?_append_right (by rw [r.len]; exact Nat.le_refl _)] at ea
      simp at e
      rw [r.len, Nat.sub_self] at ea
      simp at ea
      subst e; subst ea
      exact ho
/-- an object of ours is written -/
theorem Rep.set {i : Nat} {a : Addr} {u u' : HO} {o' : AO} (r : Rep κ ι M H) (ea : ι[i]? = some a) (hu : H a = some u) (k : Keep H (upd H a u')) (ho : OR κ ι (upd H a u') o' a) (ht : ∀ ps, u ≠ .tbl ps) : Rep κ ι (M.set i o') (upd H a u') := by
  refine ⟨by simp [r.len], r.nd, fun j o b e eb => ?_, fun q hq => (r.tab q hq).keep k fun ps e => by rw [upd_ne (fun z => ht ps (Option.some.inj (hu.symm.trans (by rw [← z]; exact e))))]; exact e⟩
  by_cases hj : j = i
  · subst hj
    have hb : b = a := Option.some.inj (eb.symm.trans ea)
    subst hb
    have hl : j < M.length := by rw [← r.len]; exact (List.getElem?_eq_some_iff.mp ea).1
    rw [List.getElem?_set_self hl] at e
    have e2 : o' = o := Option.some.inj e
    subst e2
    exact ho
  · rw [List.getElem?_set_ne (Ne.symm hj)] at e
    refine (r.obj j o b e eb).mono (List.prefix_refl _) k (upd_ne fun z => hj ?_)
    subst z
    obtain ⟨h1, e1⟩ := List.getElem?_eq_some_iff.mp eb
    obtain ⟨h2, e2⟩ := List.getElem?_eq_some_iff.mp ea
    exact (List.getElem_inj r.nd).mp (e1.trans e2.symm)
theorem Rel.keep {H' : Hp} (r : Rel κ ι vs M σ H) (k : Keep H H') (same : ∀ a u, H a = some u → H' a = H a) : Rel κ ι vs M σ H' := ⟨r.sl.mono (List.prefix_refl _) k, r.rep.keep k same⟩
theorem Rel.other {p : Addr} {o : HO} (r : Rel κ ι vs M σ H) (hp : H p = none) : Rel κ ι vs M σ (upd H p o) := ⟨r.sl.mono (List.prefix_refl _) (Keep.new hp), r.rep.other hp⟩
theorem Rel.snoc {p : Addr} {u : HO} {o : AO} (r : Rel κ ι vs M σ H) (hp : H p = none) (ho : OR κ (ι ++ [p]) (upd H p u) o p) : Rel κ (ι ++ [p]) vs (M ++ [o]) σ (upd H p u) :=
  ⟨r.sl.mono (List.prefix_append _ _) (Keep.new hp), r.rep.snoc hp ho⟩
theorem Rel.set {i : Nat} {a : Addr} {u u' : HO} {o' : AO} (r : Rel κ ι vs M σ H) (ea : ι[i]? = some a) (hu : H a = some u) (k : Keep H (upd H a u')) (ho : OR κ ι (upd H a u') o' a) (ht : ∀ ps, u ≠ .tbl ps) : Rel κ ι vs (M.set i o') σ (upd H a u') :=
  ⟨r.sl.mono (List.prefix_refl _) k, r.rep.set ea hu k ho ht⟩
end

/-! ### rules: names, constants, operators -/
section
variable [Tb] {X : Cx} {W : WX} {e a b : Expr} {es rest : List Expr} {pos p : Pos} {ca cb : CE} {ta tb : CT} {r : CA} {x : Str}
abbrev kf [Tb] (X : Cx) : Cfg := ⟨X.K, X.mg, X.prog, X.w, X.base, Tb.T⟩
abbrev EvE (X : Cx) (W : WX) (e : Expr) (c : CE) : Prop := PE X e (rdE (kf X) W c)
abbrev EvT (X : Cx) (W : WX) (e : Expr) (c : CT) : Prop := PT X e (rdT (kf X) W c)
abbrev EvA (X : Cx) (W : WX) (e : List Expr) (c : CA) : Prop := PA X e (rdA (kf X) W c)
theorem ev_var (i : Nat) (hN : X.N[i]? = some x := by rfl) (hv : Vis X.env.scope x := by first | exact Or.inl rfl | exact Or.inr (Or.inl rfl) | exact Or.inr (Or.inr rfl)) (hd : (x == ("__debug__" : Str)) = false := by decide +kernel)
    (hcd : (x == ("__classdict__" : Str)) = false := by decide +kernel) : EvE X W (.Name x pos) (varC i) :=
  PE.imp (pe_var hN hv hd hcd) fun σ H Q ⟨ι, vs, M, hr, o⟩ => by
    unfold varC at o
    split at o
    · rename_i a e
      obtain ⟨v, ev, rv⟩ := hr.sl.at_ i _ e
      exact ⟨v, ev, Out.fin hr o rv⟩
    · exact o.elim
theorem ev_con {t : TE} {v : V} {c : AV} (h : PE X e (tC v)) (hc : ∀ ι H, VR (kf X) ι H c v) : EvE X W e (conC c) :=
  PE.imp h fun σ H Q ⟨ι, vs, M, hr, o⟩ => Out.fin hr o (hc ι H)
theorem ev_int {i : Int} {j : Nat} : EvE X W (.Constant (.int i) j pos) (conC (.int i)) := ev_con (t := tC (.int i)) pe_int fun _ _ => by rw [VR]
theorem ev_bl {i : Bool} {j : Nat} : EvE X W (.Constant (.bool i) j pos) (conC (.bl i)) := ev_con (t := tC (.bl i)) pe_bl fun _ _ => by rw [VR]
theorem ev_non {j : Nat} : EvE X W (.Constant .none j pos) (conC .non) := ev_con (t := tC .non) pe_non fun _ _ => by rw [VR]
theorem ev_str {z : Str} {j : Nat} : EvE X W (.Constant (.str z) j pos) (conC (.str z)) := ev_con (t := tC (.str z)) pe_str fun _ _ => by rw [VR]
theorem ev_glo {f : Addr} (hg : Gl X x) (hm : X.mg x = some (.ref f)) (hd : (x == ("__debug__" : Str)) = false := by decide +kernel) : EvE X W (.Name x pos) (conC (.glo x)) :=
  ev_con (t := tC (.ref f)) (pe_glob hg hm (v := .ref f) (show Value.ref f = Value.ref f from rfl) hd) fun _ _ => by rw [VR]; exact ⟨f, hm, rfl⟩
/-- two values in a row -/
theorem two_vals {op : AV → AV → AH → R AV} {σ : L2.St} {H : Hp} {Q : VK} (h : rdE (kf X) W (bin2 op ca cb) σ H Q) : rdE (kf X) W ca σ H fun x H1 => rdE (kf X) W cb σ H1 fun y H2 => rd2 (kf X) W op x y H2 Q := by
  obtain ⟨ι, vs, M, hr, o⟩ := h
  refine Out.run hr o fun ι1 a M1 v H1 h1 h2 h3 h4 h5 => ?_
  refine Out.run h3 h5 fun ι2 b M2 w H2 g1 g2 g3 g4 g5 => ?_
  exact ⟨ι2, vs, M2, σ, a, b, g3, h4.mono g1 g2, g4, g5⟩
theorem ev_bin {o : Operator} {op : AV → AV → AH → R AV} (ho : OpR X (binaryOp o) (rd2 (kf X) W op)) (ha : EvE X W a ca) (hb : EvE X W b cb) : EvE X W (.BinOp a o b pos) (bin2 op ca cb) :=
  PE.imp (pe_op ho ha hb) fun σ H Q h => two_vals h
theorem ev_cmp {o : CmpOp} {op : AV → AV → AH → R AV} (ho : OpR X (compareOp o) (rd2 (kf X) W op)) (ha : EvE X W a ca) (hb : EvE X W b cb) (hm : behindInMarks o b = false := by first | exact nomark _ (by decide) (by decide) | rfl) : EvE X W (.Compare a [o] [b] pos) (bin2 op ca cb) :=
  PE.imp (pe_cmpR ho ha hb hm) fun σ H Q h => two_vals h
theorem ev_un {o : UnaryOp} {op : AV → AH → R AV} (ho : UnR X (unaryOp o) (rd1 (kf X) W op)) (ha : EvE X W a ca) : EvE X W (.UnaryOp o a pos) (un1 op ca) :=
  PE.imp (pe_un ho ha) fun σ H Q ⟨ι, vs, M, hr, o⟩ => Out.run hr o fun ι1 a M1 v H1 h1 h2 h3 h4 h5 => ⟨ι1, vs, M1, σ, a, h3, h4, h5⟩

/-! ### dicts with tuple keys: what the library wants -/
section
variable {pins : List (Addr × Obj)} {σ0 : L2.St} {H : Hp} {s : Shared} {ι : List Addr}
mutual
theorem key_is (I : Inv X pins σ0 H s) : ∀ {a : AV} {v : V} {u : Value} {k : NestedKey}, VR (kf X) ι H a v → RelV v u → a.key = some k → NestedIs s.heap k u
  | .non, v, u, k, h, r, e => by rw [VR] at h; subst h; cases r; rw [AV.key] at e; cases e; exact .none
  | .bl b, v, u, k, h, r, e => by rw [VR] at h; subst h; cases r; rw [AV.key] at e; cases e; exact .bool rfl
  | .int i, v, u, k, h, r, e => by rw [VR] at h; subst h; obtain ⟨t, rfl⟩ := r; rw [AV.key] at e; cases e; exact .int _ _
  | .str i, v, u, k, h, r, e => by rw [VR] at h; subst h; obtain ⟨t, rfl⟩ := r; rw [AV.key] at e; cases e; exact .text _ _
  | .tup xs, v, u, k, h, r, e => by
    rw [VR] at h
    obtain ⟨p, vs, rfl, hp, hv⟩ := h
    cases r
    rw [AV.key] at e
    obtain ⟨ks, e1, rfl⟩ := Option.map_eq_some_iff.mp e
    obtain ⟨its, rv, ht, _⟩ := I.tuple hp
    obtain ⟨o, ho, hc, n, hd⟩ := ht
    refine .tup ho hc hd ?_
    have := keys_are I hv rv e1
    simpa using this
  | .ref i, v, u, k, h, r, e => by rw [AV.key] at e; cases e
  | .glo i, v, u, k, h, r, e => by rw [AV.key] at e; cases e
  | .ty i, v, u, k, h, r, e => by rw [AV.key] at e; cases e
theorem keys_are (I : Inv X pins σ0 H s) : ∀ {xs : List AV} {vs : List V} {us : List Value} {ks : List NestedKey}, VRs (kf X) ι H xs vs → Vals vs us → AV.keys xs = some ks → NestedAll s.heap ks us
  | [], vs, us, ks, h, r, e => by
    obtain rfl := h.nil_inv
    cases r
    rw [AV.keys] at e; cases e
    exact .nil
  | x :: xs, vs, us, ks, h, r, e => by
    obtain ⟨v, ws, rfl, h1, h2⟩ := h.cons_inv
    cases r with
    | cons r1 r2 =>
      rw [AV.keys] at e
      split at e
      · rename_i k ks' e1 e2
        cases e
        exact .cons (key_is I h1 r1 e1) (keys_are I h2 r2 e2)
      · cases e
end
abbrev NR : List (NestedKey × Addr × V) → List (NestedKey × Addr × Value) → Prop := Paired (fun (p : NestedKey × Addr × V) (q : NestedKey × Addr × Value) => p.1 = q.1 ∧ p.2.1 = q.2.1 ∧ RelV p.2.2 q.2.2)
theorem nd_at (I : Inv X pins σ0 H s) {a : Addr} {kvs : List (AV × AV)} {ks : List (NestedKey × Addr × V)} (e : H a = some (NdO X.prog X.w a ks)) (t : TR (kf X) ι H kvs ks) :
    (a == sysModules) = false ∧ ks.length ≤ sizeLine ∧ ∃ xs, s.heap.DictOfH (nestedKind X.prog X.w) a xs ∧ NR ks xs := by
  have x := I.hok a _ e
  obtain ⟨⟨h1, h2, o, es, ep, xs, h3, h4, h5, h6, h7, h8⟩, _⟩ := x
  refine ⟨h1, h2, xs, ⟨o, es, ep, h3, h4, h5, h6, fun y hy => ?_, h8⟩, h7⟩
  clear h1 h2 h3 h4 h5 h6 h8 e
  have : ∀ {l1 : List (AV × AV)} {l2 : List (NestedKey × Addr × V)} {l3 : List (NestedKey × Addr × Value)}, TR (kf X) ι H l1 l2 → NR l2 l3 → ∀ y ∈ l3, (nestedKind X.prog X.w).is s.heap y.1 y.2.1 := by
    intro l1 l2 l3 t n
    induction t generalizing l3 with
    | nil => cases n; intro y hy; simp at hy
    | cons r _ ih =>
      cases n with
      | cons q n' =>
        intro y hy
        rcases List.mem_cons.mp hy with e | hy
        · subst e
          obtain ⟨e1, e2, e3⟩ := q
          rw [← e1, ← e2]
          exact ⟨key_is I r.2.1 rfl r.1, r.2.2.1⟩
        · exact ih n' y hy
  exact this t h7 y hy
theorem truthy_dictH {A : Around} {E : Value → Shared → Prop} {d : Addr} {xs : List (NestedKey × Addr × Value)} {Q : Bool → Shared → Prop} (hd : (d == sysModules) = false) (hm : s.heap.DictOfH (nestedKind X.prog X.w) d xs) (hfit : (xs.length : Int) < 2 ^ 63)
    (h : Q (!xs.isEmpty) { s with toks := s.toks + 1 + 1 }) : wpAny (model X.prog X.w) A (truthy (.ref d)) Q E s := by
  have hne : ((xs.length : Int) != 0) = !xs.isEmpty := by cases xs <;> simp <;> omega
  have key : wpAny (model X.prog X.w) A (runValue (.builtin "len" ⟨[.ref d], []⟩)) (fun r s' => r = .int xs.length (s.toks + 1) ∧ Q (!xs.isEmpty) s') E s := by
    refine wpAny_runValue (codeAny_builtin entry_len ?_)
    rw [Around.under_plainId plain_len _]
    exact wpAny_mono (wpAny_len_body_dictH (Q := fun r s' => r = .int xs.length (s.toks + 1) ∧ Q (!xs.isEmpty) s') hd hm hfit ⟨rfl, h⟩)
      (fun fin s' h' => by obtain ⟨r, rfl, hq⟩ := h'; exact hq) fun _ _ e => e
  unfold truthy
  first
    | refine wpAny_bind (wpAny_callSpecial?_none (name := Str.ofString "__bool__") hm.typeIs noBool_dict ?_)
    | refine wpAny_bind (wpAny_pure (wpAny_bind (wpAny_callSpecial?_none (name := Str.ofString "__bool__") hm.typeIs noBool_dict ?_)))
  first
    | refine wpAny_bind (wpAny_specialOf (name := Str.ofString "__len__") hm.typeIs F.slot_dict_len.lookup ?_)
    | refine wpAny_bind (wpAny_pure (wpAny_bind (wpAny_specialOf (name := Str.ofString "__len__") hm.typeIs F.slot_dict_len.lookup ?_)))
  first
    | exact wpAny_bind (wpAny_mono key (fun r s' h' => by obtain ⟨rfl, hq⟩ := h'; exact wpAny_pure (hne ▸ hq)) fun _ _ e => e)
    | exact wpAny_bind (wpAny_pure (wpAny_bind (wpAny_mono key (fun r s' h' => by obtain ⟨rfl, hq⟩ := h'; exact wpAny_pure (hne ▸ hq)) fun _ _ e => e)))
end

/-! ### truth, and, or, not, if -/
def rTru (κ : Cfg) : V → Hp → (Bool → Hp → Prop) → Prop := fun x H Q => ∃ ι vs M σ a k, Rel κ ι vs M σ H ∧ VR κ ι H a x ∧ truA a M = .ok k M ∧ Q k H
theorem tru_all : TruR X (rTru (kf X)) := by
  intro pins s σ0 H x v Q I rx ⟨ι, vs, M, σ, a, k, hr, h, e, q⟩
  have go : TruV X.K x H k → wpAny (model X.prog X.w) X.A (truthy v) (TP X pins σ0 Q) X.xe s := fun t => tru_ok pins s σ0 H x v Q I rx ⟨k, t, q⟩
  cases a with
  | non => rw [VR] at h; subst h; injection e with e1 e2; exact go e1.symm
  | bl b => rw [VR] at h; subst h; injection e with e1 e2; exact go e1.symm
  | int i => rw [VR] at h; subst h; injection e with e1 e2; exact go e1.symm
  | str s =>
    rw [VR] at h; subst h
    unfold truA at e
    dsimp only at e
    split at e
    · rename_i hs
      injection e with e1 e2
      exact go ⟨hs, e1.symm⟩
    · cases e
  | tup xs =>
    rw [VR] at h
    obtain ⟨a, ws, rfl, q, r⟩ := h
    injection e with e1 e2
    refine go (.inr (.inl ⟨ws, q, ?_⟩))
    rw [← e1]
    have := r.length
    cases xs <;> cases ws <;> simp_all
  | ref i =>
    rw [VR] at h
    obtain ⟨p, ei, rfl⟩ := h
    unfold truA at e
    dsimp only at e
    cases q1 : M[i]? with
    | none => rw [q1] at e; cases e
    | some o =>
      rw [q1] at e
      have ho := hr.rep.at_ q1 ei
      cases o with
      | lst xs =>
        obtain ⟨ws, h1, h2⟩ := ho
        injection e with e1 e2
        refine go (.inl ⟨ws, SqL.of h1, ?_⟩)
        rw [← e1]
        have := h2.length
        cases xs <;> cases ws <;> simp_all
      | frz xs =>
        obtain ⟨ob, ws, h1, h2⟩ := ho
        injection e with e1 e2
        refine go (.inl ⟨ws, .inl (.inr ⟨ob, h1⟩), ?_⟩)
        rw [← e1]
        have := h2.length
        cases xs <;> cases ws <;> simp_all
      | dct kvs =>
        injection e with e1 e2
        rcases ho with ⟨gs, h1, h2⟩ | ⟨ks, h1, h2, hne⟩
        · refine go (.inr (.inr ⟨gs, h1, ?_⟩))
          rw [← e1]
          cases h2 <;> rfl
        · cases rx
          obtain ⟨z1, z2, xs, z3, z4⟩ := nd_at I h1 h2
          have l1 := Paired.length h2
          have l2 := Paired.length z4
          have hl := line63
          refine truthy_dictH z1 z3 (by rw [← l2]; omega) ⟨H, I.tok _, ?_⟩
          have : (!xs.isEmpty) = k := by
            rw [← e1]
            cases kvs <;> cases xs <;> simp_all
          rw [this]; exact q
      | ins c fs => cases e
  | glo x => cases e
  | ty n => cases e
theorem truA_cases (a : AV) (M : AH) : (∃ k, truA a M = .ok k M) ∨ truA a M = .bad := by
  unfold truA
  split
  all_goals first | exact .inl ⟨_, rfl⟩ | skip
  · split
    · exact .inl ⟨_, rfl⟩
    · exact .inr rfl
  · split
    all_goals first | exact .inl ⟨_, rfl⟩ | exact .inr rfl
  · exact .inr rfl
theorem tru_out {β : Type} {κ : Cfg} {α : Type} {rel : List Addr → Hp → α → β → Prop} {ι : List Addr} {vs : Loc} {M : AH} {σ : L2.St} {H : Hp} {a : AV} {v : V} {Q : β → Hp → Prop} {k : Bool → AH → R α} {Q' : Bool → Hp → Prop} (hr : Rel κ ι vs M σ H) (h : VR κ ι H a v)
    (o : Out κ W rel ι vs σ H Q ((truA a M).bind k)) (go : ∀ c, Out κ W rel ι vs σ H Q (k c M) → Q' c H) : rTru κ v H Q' := by
  rcases truA_cases a M with ⟨c, e⟩ | e
  · rw [e] at o
    exact ⟨ι, vs, M, σ, a, c, hr, h, e, go c o⟩
  · rw [e] at o
    exact o.elim
section
variable {te tb' : TE} {rt : V → Hp → (Bool → Hp → Prop) → Prop}
theorem pt_tru (hr : TruR X rt) (ha : PE X a te) (he : ∀ whole, isTrue a X.env whole = (do let v ← whole; standAt a.pos; holding [v] (truthy v))) : PT X a (fun σ H Q => te σ H fun x H' => rt x H' Q) := by
  refine ⟨fun pins s σ H Q I h => ?_⟩
  exact PyProof.Rows.isTrue_plain (thn (ha.run pins s σ H _ I h) fun v s1 ⟨x, H1, I1, r1, q1⟩ => hr pins s1 σ H1 x v Q I1 r1 q1) (he _)
theorem pe_andR (hr : TruR X rt) (ha : PE X a te) (hb : PE X (.BoolOp .And (b :: rest) pos) tb') : PE X (.BoolOp .And (a :: b :: rest) pos) (fun σ H Q => te σ H fun x H1 => rt x H1 fun k H2 => H2 = H1 ∧ if k = true then tb' σ H1 Q else Q x H1) := by
  refine ⟨fun pins s σ H Q I h => ?_⟩
  refine PyProof.Rows.BoolOp_and (thn (ha.run pins s σ H _ I h) fun v s1 ⟨x, H1, I1, r1, q1⟩ => ?_)
  refine thn (hr pins s1 σ H1 x v _ I1 r1 q1) fun c s2 ⟨H2, I2, e2, q2⟩ => ?_
  subst e2
  cases c with
  | true => exact hb.run pins s2 σ H2 Q I2 q2
  | false => exact ⟨x, H2, I2, r1, q2⟩
theorem pe_orR (hr : TruR X rt) (ha : PE X a te) (hb : PE X (.BoolOp .Or (b :: rest) pos) tb') : PE X (.BoolOp .Or (a :: b :: rest) pos) (fun σ H Q => te σ H fun x H1 => rt x H1 fun k H2 => H2 = H1 ∧ if k = true then Q x H1 else tb' σ H1 Q) := by
  refine ⟨fun pins s σ H Q I h => ?_⟩
  refine PyProof.Rows.BoolOp_or (thn (ha.run pins s σ H _ I h) fun v s1 ⟨x, H1, I1, r1, q1⟩ => ?_)
  refine thn (hr pins s1 σ H1 x v _ I1 r1 q1) fun c s2 ⟨H2, I2, e2, q2⟩ => ?_
  subst e2
  cases c with
  | true => exact ⟨x, H2, I2, r1, q2⟩
  | false => exact hb.run pins s2 σ H2 Q I2 q2
theorem pe_notR (hr : TruR X rt) (ha : PE X a te) : PE X (.UnaryOp .Not a pos) (fun σ H Q => te σ H fun x H1 => rt x H1 fun k H2 => Q (.bl (!k)) H2) := by
  refine ⟨fun pins s σ H Q I h => ?_⟩
  refine PyProof.Rows.UnaryOp_ (thn (ha.run pins s σ H _ I h) fun v s1 ⟨x, H1, I1, r1, q1⟩ => ?_)
  exact PyProof.Rows.not_of (thn (hr pins s1 σ H1 x v _ I1 r1 q1) fun c s2 ⟨H2, I2, q2⟩ => ⟨.bl (!c), H2, I2, rfl, q2⟩)
end
theorem ev_tru (ha : EvE X W a ca) (he : ∀ whole, isTrue a X.env whole = (do let v ← whole; standAt a.pos; holding [v] (truthy v)) := by intro _; rfl) : EvT X W a (truC ca) :=
  PT.imp (pt_tru tru_all ha he) fun σ H Q ⟨ι, vs, M, hr, o⟩ => Out.run hr o fun ι1 a M1 v H1 h1 h2 h3 h4 h5 => by
    have h5' : Out (kf X) W relT ι1 vs σ H1 Q ((truA a M1).bind fun k M => .ok k M) := by
      have : (truA a M1).bind (fun k M => .ok k M) = truA a M1 := by cases truA a M1 <;> rfl
      rw [this]; exact h5
    exact tru_out h3 h4 h5' fun c o' => Out.fin h3 o' rfl
theorem ev_and1 {o : BoolOp} (ha : EvE X W a ca) : EvE X W (.BoolOp o [a] pos) ca := pe_one ha
theorem ev_and (ha : EvE X W a ca) (hb : EvE X W (.BoolOp .And (b :: rest) pos) cb) : EvE X W (.BoolOp .And (a :: b :: rest) pos) (andC ca cb) :=
  PE.imp (pe_andR tru_all ha hb) fun σ H Q ⟨ι, vs, M, hr, o⟩ => Out.run hr o fun ι1 a M1 v H1 h1 h2 h3 h4 h5 => tru_out h3 h4 h5 fun c o' => by
    refine ⟨rfl, ?_⟩
    cases c with
    | true => rw [if_pos rfl] at o' ⊢; exact ⟨ι1, vs, M1, h3, o'⟩
    | false => rw [if_neg (by decide)] at o' ⊢; exact Out.fin h3 o' h4
theorem ev_or (ha : EvE X W a ca) (hb : EvE X W (.BoolOp .Or (b :: rest) pos) cb) : EvE X W (.BoolOp .Or (a :: b :: rest) pos) (orC ca cb) :=
  PE.imp (pe_orR tru_all ha hb) fun σ H Q ⟨ι, vs, M, hr, o⟩ => Out.run hr o fun ι1 a M1 v H1 h1 h2 h3 h4 h5 => tru_out h3 h4 h5 fun c o' => by
    refine ⟨rfl, ?_⟩
    cases c with
    | true => rw [if_pos rfl] at o' ⊢; exact Out.fin h3 o' h4
    | false => rw [if_neg (by decide)] at o' ⊢; exact ⟨ι1, vs, M1, h3, o'⟩
theorem ev_not (ha : EvE X W a ca) : EvE X W (.UnaryOp .Not a pos) (notC ca) :=
  PE.imp (pe_notR tru_all ha) fun σ H Q ⟨ι, vs, M, hr, o⟩ => Out.run hr o fun ι1 a M1 v H1 h1 h2 h3 h4 h5 => tru_out h3 h4 h5 fun c o' => Out.fin h3 o' (by rw [VR])
/-- tests -/
abbrev EvW (X : Cx) (W : WX) (e : Expr) (c : CT) : Prop := PW X e (rdT (kf X) W c)
theorem PW.imp {t t' : TT} (h : PW X e t) (k : ∀ σ H Q, t' σ H Q → t σ H Q) : PW X e t' := ⟨fun w pins s σ H Q I q => h.run w pins s σ H Q I (k σ H Q q)⟩
theorem et_and1 (ha : EvT X W a ta) : EvW X W (.BoolOp .And [a] pos) ta := pw_and1 ha
theorem et_or1 (ha : EvT X W a ta) : EvW X W (.BoolOp .Or [a] pos) ta := pw_or1 ha
theorem et_and (ha : EvT X W a ta) (hb : EvW X W (.BoolOp .And (b :: rest) pos) tb) : EvW X W (.BoolOp .And (a :: b :: rest) pos) (andT ta tb) :=
  PW.imp (pw_and ha hb) fun σ H Q ⟨ι, vs, M, hr, o⟩ => Out.run hr o fun ι1 a M1 v H1 h1 h2 h3 h4 h5 => by
    subst h4
    cases a with
    | true => rw [if_pos rfl] at h5 ⊢; exact ⟨ι1, vs, M1, h3, h5⟩
    | false => rw [if_neg (by decide)] at h5 ⊢; exact Out.fin h3 h5 rfl
theorem et_or (ha : EvT X W a ta) (hb : EvW X W (.BoolOp .Or (b :: rest) pos) tb) : EvW X W (.BoolOp .Or (a :: b :: rest) pos) (orT ta tb) :=
  PW.imp (pw_or ha hb) fun σ H Q ⟨ι, vs, M, hr, o⟩ => Out.run hr o fun ι1 a M1 v H1 h1 h2 h3 h4 h5 => by
    subst h4
    cases a with
    | true => rw [if_pos rfl] at h5 ⊢; exact Out.fin h3 h5 rfl
    | false => rw [if_neg (by decide)] at h5 ⊢; exact ⟨ι1, vs, M1, h3, h5⟩
theorem et_w (h : EvW X W a ta) : EvT X W a ta := PW.pt h
theorem et_not (ha : EvT X W a ta) : EvT X W (.UnaryOp .Not a pos) (notT ta) :=
  PT.imp (pt_not ha) fun σ H Q ⟨ι, vs, M, hr, o⟩ => Out.run hr o fun ι1 a M1 v H1 h1 h2 h3 h4 h5 => by
    subst h4
    exact Out.fin h3 h5 rfl
/-- a comparison as a test -/
def tstA (a : AV) (M : AH) : R Bool := match a with
  | .bl b => .ok b M
  | _ => .bad
def cmpT (op : AV → AV → AH → R AV) (ca cb : CE) : CT := fun vs M => (ca vs M).bind fun a M1 => (cb vs M1).bind fun b M2 => (op a b M2).bind tstA
theorem et_cmp {o : CmpOp} {op : AV → AV → AH → R AV} (ho : OpR X (compareOp o) (rd2 (kf X) W op)) (ha : EvE X W a ca) (hb : EvE X W b cb) (hm : behindInMarks o b = false := by first | exact nomark _ (by decide) (by decide) | rfl) : EvT X W (.Compare a [o] [b] pos) (cmpT op ca cb) :=
  PT.imp (pt_cmpR ho ha hb hm) fun σ H Q ⟨ι, vs, M, hr, o⟩ => Out.run hr o fun ι1 a M1 v H1 h1 h2 h3 h4 h5 => by
    refine Out.run h3 h5 fun ι2 b M2 w H2 g1 g2 g3 g4 g5 => ?_
    refine ⟨ι2, vs, M2, σ, a, b, g3, h4.mono g1 g2, g4, (Out.bind g5).imp fun ι' H' z v' M' k1 k2 k3 k4 ⟨ι3, a3, M3, p1, p2, p3, p4, p5⟩ => ?_⟩
    cases a3 with
    | bl c =>
      rw [VR] at p4
      exact ⟨c, p4, Out.fin p3 p5 rfl⟩
    | _ => exact p5.elim
theorem ev_if {c : Expr} (hc : EvT X W c ta) (ha : EvE X W a ca) (hb : EvE X W b cb) : EvE X W (.IfExp c a b pos) (ifC ta ca cb) :=
  PE.imp (pe_ifExp hc ha hb) fun σ H Q ⟨ι, vs, M, hr, o⟩ => Out.run hr o fun ι1 a M1 v H1 h1 h2 h3 h4 h5 => by
    subst h4
    cases a with
    | true => rw [if_pos rfl] at h5 ⊢; exact ⟨ι1, vs, M1, h3, h5⟩
    | false => rw [if_neg (by decide)] at h5 ⊢; exact ⟨ι1, vs, M1, h3, h5⟩

/-! ### arguments, displays, calls of built-ins -/
theorem ea_nil : EvA X W [] nilA := PA.imp pa_nil fun σ H Q ⟨ι, vs, M, hr, o⟩ => Out.fin hr o .nil
theorem ea_cons (ha : EvE X W e ca) (hr : EvA X W es r) (hs : starEach (e :: es) X.env = (false, eval e X.env) :: starEach es X.env := by rfl) : EvA X W (e :: es) (consA ca r) :=
  PA.imp (pa_cons ha hr hs) fun σ H Q ⟨ι, vs, M, hr, o⟩ => Out.run hr o fun ι1 a M1 v H1 h1 h2 h3 h4 h5 => Out.run h3 h5 fun ι2 as M2 ws H2 g1 g2 g3 g4 g5 => Out.fin g3 g5 (.cons (h4.mono g1 g2) g4)
theorem ev_tup {k : Nat} (h : EvA X W es r) : EvE X W (.Tuple es k pos) (argsC tupA r) :=
  PE.imp (pe_tup h) fun σ H Q ⟨ι, vs, M, hr, o⟩ => Out.run hr o fun ι1 as M1 ws H1 h1 h2 h3 h4 h5 => by
    unfold tupA at h5
    split at h5
    · rename_i hl
      refine ⟨by rw [← h4.length]; exact hl, fun p hp => ?_⟩
      refine h5 ι1 _ _ (List.prefix_refl _) (Keep.new hp) (h3.other hp) ?_
      rw [VR]
      exact ⟨p, ws, rfl, SqT.of upd_same, h4.mono (List.prefix_refl _) (Keep.new hp)⟩
    · exact h5.elim
theorem ev_lst (h : EvA X W es r) : EvE X W (.List es pos) (argsC lstA r) :=
  PE.imp (pe_lst h) fun σ H Q ⟨ι, vs, M, hr, o⟩ => Out.run hr o fun ι1 as M1 ws H1 h1 h2 h3 h4 h5 => by
    unfold lstA at h5
    split at h5
    · rename_i hl
      refine ⟨by rw [← h4.length]; exact hl, fun p hp => ?_⟩
      have hk := Keep.new (o := .lst ws) hp
      refine h5 (ι1 ++ [p]) _ _ (List.prefix_append _ _) hk (h3.snoc hp ⟨ws, upd_same, h4.mono (List.prefix_append _ _) hk⟩) ?_
      rw [VR]
      refine ⟨p, ?_, rfl⟩
      rw [← h3.rep.len]
      simp
    · exact h5.elim
theorem ev_callB {id : String} {op : List AV → AH → R AV} (hc : CallR X (.builtin id) (rdN (kf X) W op)) (hg : Gl X x) (hm : X.mg x = none) (hv : bootBuiltins x = some (.builtin id)) (ha : EvA X W (e :: es) r) (hn : x ≠ "__name__" := by decide +kernel)
    (hdb : (x == ("__debug__" : Str)) = false := by decide +kernel) (he : starEach (e :: es) X.env = (false, eval e X.env) :: starEach es X.env := by rfl) (hpl : (backTo pos (starEach es X.env)).any (·.1) = false := by rfl) :
    EvE X W (.Call (.Name x p) (e :: es) [] pos) (argsC op r) :=
  PE.imp (pe_callB hc hg hm hv ha hn hdb he hpl) fun σ H Q ⟨ι, vs, M, hr, o⟩ => Out.run hr o fun ι1 as M1 ws H1 h1 h2 h3 h4 h5 => ⟨ι1, vs, M1, σ, as, h3, h4, h5⟩
theorem ev_callTy {T : String} {op : List AV → AH → R AV} (hc : CallR X (.type T) (rdN (kf X) W op)) (hg : Gl X x) (hm : X.mg x = none) (hv : bootBuiltins x = some (.type T)) (ha : EvA X W (e :: es) r) (hn : x ≠ "__name__" := by decide +kernel)
    (hdb : (x == ("__debug__" : Str)) = false := by decide +kernel) (he : starEach (e :: es) X.env = (false, eval e X.env) :: starEach es X.env := by rfl) (hpl : (backTo pos (starEach es X.env)).any (·.1) = false := by rfl) :
    EvE X W (.Call (.Name x p) (e :: es) [] pos) (argsC op r) :=
  PE.imp (pe_callTy hc hg hm hv ha hn hdb he hpl) fun σ H Q ⟨ι, vs, M, hr, o⟩ => Out.run hr o fun ι1 as M1 ws H1 h1 h2 h3 h4 h5 => ⟨ι1, vs, M1, σ, as, h3, h4, h5⟩
end
end AM
end

section
set_option Elab.async false
set_option linter.all false
set_option autoImplicit false
set_option maxRecDepth 100000
set_option maxHeartbeats 4000000
/-! AM 3: operators by values. -/
namespace AM
open PySem PySem.Spec L2

/-! ### what the operators compute -/
def newL (xs : List AV) (M : AH) : R AV := if xs.length ≤ sizeLine then .ok (.ref M.length) (M ++ [.lst xs]) else .bad
def opAdd (a b : AV) (M : AH) : R AV := match a, b with
  | .int i, .int j => .ok (.int (i + j)) M
  | .str s, .str t => if s.length + t.length ≤ sizeLine then .ok (.str (s ++ t)) M else .bad
  | .tup xs, .tup ys => if xs.length + ys.length ≤ sizeLine then .ok (.tup (xs ++ ys)) M else .bad
  | .ref i, .ref j => match M[i]?, M[j]? with
    | some (.lst xs), some (.lst ys) => newL (xs ++ ys) M
    | _, _ => .bad
  | _, _ => .bad
def opSub (a b : AV) (M : AH) : R AV := match a, b with
  | .int i, .int j => .ok (.int (i - j)) M
  | _, _ => .bad
def opMul (a b : AV) (M : AH) : R AV := match a, b with
  | .int i, .int j => if i.natAbs.log2 + j.natAbs.log2 < 1000000 then .ok (.int (i * j)) M else .bad
  | .ref i, .int k => match M[i]? with
    | some (.lst xs) => if k < 2 ^ 62 ∧ -(2 ^ 62) < k then newL (List.replicate k.toNat xs).flatten M else .bad
    | _ => .bad
  | _, _ => .bad
def opDiv (a b : AV) (M : AH) : R AV := match a, b with
  | .int i, .int j => if 0 < j ∧ j.natAbs.log2 < 9000 then .ok (.int (i / j)) M else if j < 0 ∧ j.natAbs < 1073741824 then .ok (.int (i.fdiv j)) M else .bad
  | _, _ => .bad
def opMod (a b : AV) (M : AH) : R AV := match a, b with
  | .int i, .int j => if 0 < j then .ok (.int (i % j)) M else if j < 0 then .ok (.int (i.fmod j)) M else .bad
  | _, _ => .bad
def opPow (a b : AV) (M : AH) : R AV := match a, b with
  | .int i, .int j => if 0 ≤ j ∧ j ≤ 1000000 ∧ i.natAbs < 2 ^ 64 then .ok (.int (i ^ j.toNat)) M else .bad
  | _, _ => .bad
def opNeg (a : AV) (M : AH) : R AV := match a with
  | .int i => .ok (.int (-i)) M
  | _ => .bad
def opLt (a b : AV) (M : AH) : R AV := match a, b with
  | .int i, .int j => .ok (.bl (decide (i < j))) M
  | _, _ => .bad
def opLe (a b : AV) (M : AH) : R AV := match a, b with
  | .int i, .int j => .ok (.bl (decide (i ≤ j))) M
  | _, _ => .bad
def opGt (a b : AV) (M : AH) : R AV := match a, b with
  | .int i, .int j => .ok (.bl (decide (j < i))) M
  | _, _ => .bad
def opGe (a b : AV) (M : AH) : R AV := match a, b with
  | .int i, .int j => .ok (.bl (decide (j ≤ i))) M
  | _, _ => .bad
/-- data: lists by what stands in the heap -/
def datAll (f : AV → Option PyData) : List AV → Option (List PyData)
  | [] => some []
  | x :: xs => match f x, datAll f xs with
    | some d, some ds => some (d :: ds)
    | _, _ => none
def dat (M : AH) : Nat → AV → Option PyData
  | 0, _ => none
  | n + 1, a => match a with
    | .non => some .none
    | .bl b => some (.bool b)
    | .int i => some (.int i)
    | .str s => some (.str s)
    | .tup xs => (datAll (dat M n) xs).map .tuple
    | .ref i => match M[i]? with
      | some (.lst xs) => (datAll (dat M n) xs).map .list
      | some (.frz xs) => (datAll (dat M n) xs).map .list
      | _ => none
    | _ => none
def datS (M : AH) (a : AV) : Option PyData := match dat M 40 a with
  | some d => if SeqAt.shaped d = true then some d else none
  | none => none
def opEq (a b : AV) (M : AH) : R AV := match datS M a, datS M b with
  | some d, some e => .ok (.bl (PyData.eqv d e)) M
  | _, _ => .bad
def opNe (a b : AV) (M : AH) : R AV := match datS M a, datS M b with
  | some d, some e => .ok (.bl (!PyData.eqv d e)) M
  | _, _ => .bad
def isNon : AV → Bool
  | .non => true
  | _ => false
def opIs (a b : AV) (M : AH) : R AV := match b with
  | .non => .ok (.bl (isNon a)) M
  | _ => .bad
def opIsN (a b : AV) (M : AH) : R AV := match b with
  | .non => .ok (.bl (!isNon a)) M
  | _ => .bad

/-! ### they are what the machine does -/
section
variable {X : Cx} {W : WX}
theorem vr_int {κ : Cfg} {ι : List Addr} {H : Hp} {i : Int} {v : V} : VR κ ι H (.int i) v ↔ v = .int i := by rw [VR]
theorem vr_bl {κ : Cfg} {ι : List Addr} {H : Hp} {i : Bool} {v : V} : VR κ ι H (.bl i) v ↔ v = .bl i := by rw [VR]
theorem vr_str {κ : Cfg} {ι : List Addr} {H : Hp} {i : Str} {v : V} : VR κ ι H (.str i) v ↔ v = .str i := by rw [VR]
theorem vr_non {κ : Cfg} {ι : List Addr} {H : Hp} {v : V} : VR κ ι H .non v ↔ v = .non := by rw [VR]
theorem vr_tup {κ : Cfg} {ι : List Addr} {H : Hp} {xs : List AV} {v : V} : VR κ ι H (.tup xs) v ↔ ∃ a vs, v = .ref a ∧ SqT κ.K H a vs ∧ VRs κ ι H xs vs := by rw [VR]
theorem vr_ref {κ : Cfg} {ι : List Addr} {H : Hp} {i : Nat} {v : V} : VR κ ι H (.ref i) v ↔ ∃ a, ι[i]? = some a ∧ v = .ref a := by rw [VR]
theorem vr_glo {κ : Cfg} {ι : List Addr} {H : Hp} {x : Str} {v : V} : VR κ ι H (.glo x) v ↔ ∃ f, κ.mg x = some (.ref f) ∧ v = .ref f := by rw [VR]
theorem vr_ty {κ : Cfg} {ι : List Addr} {H : Hp} {x : String} {v : V} : VR κ ι H (.ty x) v ↔ v = .ty x := by rw [VR]
/-- a new list of ours -/
theorem Out.newL {ι : List Addr} {vs : Loc} {M : AH} {σ : L2.St} {H : Hp} {Q : VK} {xs : List AV} {ws : List V} {κ : Cfg} (hr : Rel κ ι vs M σ H) (hx : VRs κ ι H xs ws) (o : Out κ W (VR κ) ι vs σ H Q (newL xs M)) :
    ws.length ≤ sizeLine ∧ ∀ p, H p = none → Q (.ref p) (upd H p (.lst ws)) := by
  unfold AM.newL at o
  split at o
  · rename_i hl
    refine ⟨by rw [← hx.length]; exact hl, fun p hp => ?_⟩
    have hk := Keep.new (o := .lst ws) hp
    refine o (ι ++ [p]) _ _ (List.prefix_append _ _) hk (hr.snoc hp ⟨ws, upd_same, hx.mono (List.prefix_append _ _) hk⟩) ?_
    rw [vr_ref]
    refine ⟨p, ?_, rfl⟩
    rw [← hr.rep.len]
    simp
  · exact o.elim
/-- a new tuple -/
theorem Out.newT {ι : List Addr} {vs : Loc} {M : AH} {σ : L2.St} {H : Hp} {Q : VK} {xs : List AV} {ws : List V} {κ : Cfg} (hr : Rel κ ι vs M σ H) (hx : VRs κ ι H xs ws) (o : Out κ W (VR κ) ι vs σ H Q (.ok (.tup xs) M)) :
    ∀ p, H p = none → Q (.ref p) (upd H p (.tup ws)) := fun p hp => by
  refine o ι _ _ (List.prefix_refl _) (Keep.new hp) (hr.other hp) ?_
  rw [vr_tup]
  exact ⟨p, ws, rfl, SqT.of upd_same, hx.mono (List.prefix_refl _) (Keep.new hp)⟩
end
section
variable [Tb] {X : Cx} {W : WX}
theorem ok_add : OpR X (binaryOp .Add) (rd2 (kf X) W opAdd) := by
  intro pins s σ0 H x y v u Q I rx ry ⟨ι, vs, M, σ, a, b, hr, ha, hb, o⟩
  unfold opAdd at o
  split at o
  · rw [vr_int] at ha hb
    exact op_add pins s σ0 H x y v u Q I rx ry ⟨_, _, ha, hb, Out.fin hr o (by rw [vr_int])⟩
  · split at o
    · rename_i hl
      rw [vr_str] at ha hb
      exact op_add_str pins s σ0 H x y v u Q I rx ry ⟨_, _, ha, hb, hl, Out.fin hr o (by rw [vr_str])⟩
    · exact o.elim
  · split at o
    · rename_i xs ys hl
      rw [vr_tup] at ha hb
      obtain ⟨p, us, rfl, hp, hus⟩ := ha
      obtain ⟨q, ws, rfl, hq, hws⟩ := hb
      refine op_catA pins s σ0 H _ _ v u Q I rx ry ⟨p, q, us, ws, rfl, rfl, hp, hq, by rw [← hus.length, ← hws.length]; exact hl, fun e => ?_, fun _ e => ?_, fun _ _ => ?_⟩
      · refine Out.fin hr o ?_
        rw [vr_tup]
        exact ⟨q, ws, rfl, hq, by have := hus.app hws; rwa [e] at this⟩
      · refine Out.fin hr o ?_
        rw [vr_tup]
        exact ⟨p, us, rfl, hp, by have := hus.app hws; rwa [e, List.append_nil] at this⟩
      · exact Out.newT hr (hus.app hws) o
    · exact o.elim
  · rename_i i j
    rw [vr_ref] at ha hb
    obtain ⟨p, ei, rfl⟩ := ha
    obtain ⟨q, ej, rfl⟩ := hb
    split at o
    · rename_i xs ys h1 h2
      obtain ⟨us, a1, a2⟩ := hr.rep.at_ h1 ei
      obtain ⟨ws, b1, b2⟩ := hr.rep.at_ h2 ej
      obtain ⟨z, n⟩ := Out.newL hr (a2.app b2) o
      exact op_cat pins s σ0 H _ _ v u Q I rx ry ⟨p, q, us, ws, rfl, rfl, a1, b1, by rw [← List.length_append]; exact z, n⟩
    · exact o.elim
  · exact o.elim
theorem ok_sub : OpR X (binaryOp .Sub) (rd2 (kf X) W opSub) := by
  intro pins s σ0 H x y v u Q I rx ry ⟨ι, vs, M, σ, a, b, hr, ha, hb, o⟩
  unfold opSub at o
  split at o
  · rw [vr_int] at ha hb
    exact op_sub pins s σ0 H x y v u Q I rx ry ⟨_, _, ha, hb, Out.fin hr o (by rw [vr_int])⟩
  · exact o.elim
theorem ok_mul : OpR X (binaryOp .Mult) (rd2 (kf X) W opMul) := by
  intro pins s σ0 H x y v u Q I rx ry ⟨ι, vs, M, σ, a, b, hr, ha, hb, o⟩
  unfold opMul at o
  split at o
  · split at o
    · rename_i hl
      rw [vr_int] at ha hb
      exact op_mulW pins s σ0 H x y v u Q I rx ry ⟨_, _, ha, hb, hl, Out.fin hr o (by rw [vr_int])⟩
    · exact o.elim
  · rename_i i k
    rw [vr_ref] at ha
    rw [vr_int] at hb
    obtain ⟨p, ei, rfl⟩ := ha
    split at o
    · rename_i xs h1
      split at o
      · rename_i hk
        obtain ⟨us, a1, a2⟩ := hr.rep.at_ h1 ei
        have hrep : ∀ n : Nat, VRs (kf X) ι H (List.replicate n xs).flatten (List.replicate n us).flatten := by
          intro n
          induction n with
          | zero => simpa using VRs.nil
          | succ n ih => rw [List.replicate_succ, List.replicate_succ, List.flatten_cons, List.flatten_cons]; exact a2.app ih
        obtain ⟨z, n⟩ := Out.newL hr (hrep k.toNat) o
        refine op_rep pins s σ0 H _ _ v u Q I rx ry ⟨p, k, us, rfl, hb, a1, by omega, by omega, ?_, n⟩
        have : (List.replicate k.toNat us).flatten.length = us.length * k.toNat := by simp [Nat.mul_comm]
        omega
      · exact o.elim
    · exact o.elim
  · exact o.elim
theorem ok_div : OpR X (binaryOp .FloorDiv) (rd2 (kf X) W opDiv) := by
  intro pins s σ0 H x y v u Q I rx ry ⟨ι, vs, M, σ, a, b, hr, ha, hb, o⟩
  unfold opDiv at o
  split at o
  · rw [vr_int] at ha hb
    split at o
    · rename_i hl
      exact op_fdivW pins s σ0 H x y v u Q I rx ry ⟨_, _, ha, hb, hl, Out.fin hr o (by rw [vr_int])⟩
    · split at o
      · rename_i hl
        exact op_fdivN pins s σ0 H x y v u Q I rx ry ⟨_, _, ha, hb, ⟨by omega, hl.2⟩, Out.fin hr o (by rw [vr_int])⟩
      · exact o.elim
  · exact o.elim
theorem ok_mod : OpR X (binaryOp .Mod) (rd2 (kf X) W opMod) := by
  intro pins s σ0 H x y v u Q I rx ry ⟨ι, vs, M, σ, a, b, hr, ha, hb, o⟩
  unfold opMod at o
  split at o
  · rw [vr_int] at ha hb
    split at o
    · rename_i hl
      exact op_mod pins s σ0 H x y v u Q I rx ry ⟨_, _, ha, hb, hl, Out.fin hr o (by rw [vr_int])⟩
    · split at o
      · rename_i hl
        exact op_modN pins s σ0 H x y v u Q I rx ry ⟨_, _, ha, hb, by omega, Out.fin hr o (by rw [vr_int])⟩
      · exact o.elim
  · exact o.elim
theorem ok_pow : OpR X (binaryOp .Pow) (rd2 (kf X) W opPow) := by
  intro pins s σ0 H x y v u Q I rx ry ⟨ι, vs, M, σ, a, b, hr, ha, hb, o⟩
  unfold opPow at o
  split at o
  · rw [vr_int] at ha hb
    split at o
    · rename_i hl
      exact op_pow pins s σ0 H x y v u Q I rx ry ⟨_, _, ha, hb, hl, Out.fin hr o (by rw [vr_int])⟩
    · exact o.elim
  · exact o.elim
theorem ok_neg : UnR X (unaryOp .USub) (rd1 (kf X) W opNeg) := by
  intro pins s σ0 H x v Q I rx ⟨ι, vs, M, σ, a, hr, ha, o⟩
  unfold opNeg at o
  split at o
  · rw [vr_int] at ha
    exact un_neg pins s σ0 H x v Q I rx ⟨_, ha, Out.fin hr o (by rw [vr_int])⟩
  · exact o.elim
theorem ok_lt : OpR X (compareOp .Lt) (rd2 (kf X) W opLt) := by
  intro pins s σ0 H x y v u Q I rx ry ⟨ι, vs, M, σ, a, b, hr, ha, hb, o⟩
  unfold opLt at o
  split at o
  · rw [vr_int] at ha hb
    exact op_lt pins s σ0 H x y v u Q I rx ry ⟨_, _, ha, hb, Out.fin hr o (by rw [vr_bl])⟩
  · exact o.elim
theorem ok_le : OpR X (compareOp .LtE) (rd2 (kf X) W opLe) := by
  intro pins s σ0 H x y v u Q I rx ry ⟨ι, vs, M, σ, a, b, hr, ha, hb, o⟩
  unfold opLe at o
  split at o
  · rw [vr_int] at ha hb
    exact op_le pins s σ0 H x y v u Q I rx ry ⟨_, _, ha, hb, Out.fin hr o (by rw [vr_bl])⟩
  · exact o.elim
theorem ok_gt : OpR X (compareOp .Gt) (rd2 (kf X) W opGt) := by
  intro pins s σ0 H x y v u Q I rx ry ⟨ι, vs, M, σ, a, b, hr, ha, hb, o⟩
  unfold opGt at o
  split at o
  · rw [vr_int] at ha hb
    exact op_gt pins s σ0 H x y v u Q I rx ry ⟨_, _, ha, hb, Out.fin hr o (by rw [vr_bl])⟩
  · exact o.elim
theorem ok_ge : OpR X (compareOp .GtE) (rd2 (kf X) W opGe) := by
  intro pins s σ0 H x y v u Q I rx ry ⟨ι, vs, M, σ, a, b, hr, ha, hb, o⟩
  unfold opGe at o
  split at o
  · rw [vr_int] at ha hb
    exact op_ge pins s σ0 H x y v u Q I rx ry ⟨_, _, ha, hb, Out.fin hr o (by rw [vr_bl])⟩
  · exact o.elim
theorem isNon_of {κ : Cfg} {ι : List Addr} {H : Hp} {a : AV} {v : V} (h : VR κ ι H a v) : decide (v = .non) = isNon a := by
  cases a with
  | non => rw [vr_non] at h; subst h; rfl
  | bl b => rw [vr_bl] at h; subst h; rfl
  | int b => rw [vr_int] at h; subst h; rfl
  | str b => rw [vr_str] at h; subst h; rfl
  | tup b => rw [vr_tup] at h; obtain ⟨a, vs, rfl, _⟩ := h; rfl
  | ref b => rw [vr_ref] at h; obtain ⟨a, _, rfl⟩ := h; rfl
  | glo b => rw [vr_glo] at h; obtain ⟨a, _, rfl⟩ := h; rfl
  | ty b => rw [vr_ty] at h; subst h; rfl
theorem ok_is : OpR X (compareOp .Is) (rd2 (kf X) W opIs) := by
  intro pins s σ0 H x y v u Q I rx ry ⟨ι, vs, M, σ, a, b, hr, ha, hb, o⟩
  unfold opIs at o
  split at o
  · rw [vr_non] at hb
    exact op_isN pins s σ0 H x y v u Q I rx ry ⟨hb, by rw [isNon_of ha]; exact Out.fin hr o (by rw [vr_bl])⟩
  · exact o.elim
theorem ok_isn : OpR X (compareOp .IsNot) (rd2 (kf X) W opIsN) := by
  intro pins s σ0 H x y v u Q I rx ry ⟨ι, vs, M, σ, a, b, hr, ha, hb, o⟩
  unfold opIsN at o
  split at o
  · rw [vr_non] at hb
    exact op_notN pins s σ0 H x y v u Q I rx ry ⟨hb, by rw [isNon_of ha]; exact Out.fin hr o (by rw [vr_bl])⟩
  · exact o.elim
/-- data of ours are data of theirs -/
theorem datAll_dp {κ : Cfg} {ι : List Addr} {H : Hp} {f : AV → Option PyData} (hf : ∀ a d v, f a = some d → VR κ ι H a v → Dp κ.K H v d) : ∀ {xs : List AV} {ds : List PyData} {vs : List V}, datAll f xs = some ds → VRs κ ι H xs vs → DpAll κ.K H vs ds
  | [], ds, vs, e, h => by
    rw [h.nil_inv]
    have : ds = [] := by simpa [datAll] using e.symm
    subst this
    exact .nil
  | x :: xs, ds, vs, e, h => by
    obtain ⟨v, ws, rfl, r, q⟩ := h.cons_inv
    unfold datAll at e
    split at e
    · rename_i d ds' h1 h2
      have : ds = d :: ds' := (Option.some.inj e).symm
      subst this
      exact .cons (hf _ _ _ h1 r) (datAll_dp hf h2 q)
    · cases e
theorem dat_dp {κ : Cfg} {ι : List Addr} {M : AH} {H : Hp} (hr : Rep κ ι M H) : ∀ (n : Nat) (a : AV) (d : PyData) (v : V), dat M n a = some d → VR κ ι H a v → Dp κ.K H v d
  | 0, a, d, v, e, _ => by cases e
  | n + 1, a, d, v, e, h => by
    unfold dat at e
    split at e
    · rw [vr_non] at h; subst h; cases e; exact .non
    · rw [vr_bl] at h; subst h; cases e; exact .bl _
    · rw [vr_int] at h; subst h; cases e; exact .int _
    · rw [vr_str] at h; subst h; cases e; exact .str _
    · rw [vr_tup] at h
      obtain ⟨p, ws, rfl, hp, hw⟩ := h
      obtain ⟨ds, e1, rfl⟩ := Option.map_eq_some_iff.mp e
      exact .tup hp (datAll_dp (dat_dp hr n) e1 hw)
    · rw [vr_ref] at h
      obtain ⟨p, ei, rfl⟩ := h
      split at e
      · rename_i xs q
        obtain ⟨ws, h1, h2⟩ := hr.at_ q ei
        obtain ⟨ds, e1, rfl⟩ := Option.map_eq_some_iff.mp e
        exact .lst (SqL.of h1) (datAll_dp (dat_dp hr n) e1 h2)
      · rename_i xs q
        obtain ⟨ob, ws, h1, h2⟩ := hr.at_ q ei
        obtain ⟨ds, e1, rfl⟩ := Option.map_eq_some_iff.mp e
        exact .lst (.inl (.inr ⟨ob, h1⟩)) (datAll_dp (dat_dp hr n) e1 h2)
      · cases e
    · cases e
theorem datS_dp {κ : Cfg} {ι : List Addr} {M : AH} {H : Hp} (hr : Rep κ ι M H) {a : AV} {d : PyData} {v : V} (e : datS M a = some d) (h : VR κ ι H a v) : Dp κ.K H v d ∧ SeqAt.shaped d = true := by
  unfold datS at e
  split at e
  · rename_i d' e'
    split at e
    · rename_i hs
      cases e
      exact ⟨dat_dp hr _ _ _ _ e' h, hs⟩
    · cases e
  · cases e
theorem ok_eq (hu : X.A.units + 64 < cLine) : OpR X (compareOp .Eq) (rd2 (kf X) W opEq) := by
  intro pins s σ0 H x y v u Q I rx ry ⟨ι, vs, M, σ, a, b, hr, ha, hb, o⟩
  unfold opEq at o
  split at o
  · rename_i d e h1 h2
    obtain ⟨d1, s1⟩ := datS_dp hr.rep h1 ha
    obtain ⟨d2, s2⟩ := datS_dp hr.rep h2 hb
    exact op_eqD hu pins s σ0 H x y v u Q I rx ry ⟨d, e, d1, d2, s1, s2, Out.fin hr o (by rw [vr_bl])⟩
  · exact o.elim
theorem ok_ne (hu : X.A.units + 64 < cLine) : OpR X (compareOp .NotEq) (rd2 (kf X) W opNe) := by
  intro pins s σ0 H x y v u Q I rx ry ⟨ι, vs, M, σ, a, b, hr, ha, hb, o⟩
  unfold opNe at o
  split at o
  · rename_i d e h1 h2
    obtain ⟨d1, s1⟩ := datS_dp hr.rep h1 ha
    obtain ⟨d2, s2⟩ := datS_dp hr.rep h2 hb
    exact op_neD hu pins s σ0 H x y v u Q I rx ry ⟨d, e, d1, d2, s1, s2, Out.fin hr o (by rw [vr_bl])⟩
  · exact o.elim
end
end AM
end

section
set_option Elab.async false
set_option linter.all false
set_option autoImplicit false
set_option maxRecDepth 100000
set_option maxHeartbeats 4000000
/-! AM 4: sequences: items, slices, methods, built-ins over them. -/
namespace AM
open PySem PySem.Spec L2

/-! ### what they compute -/
/-- the items of a list or a tuple -/
def seqA (a : AV) (M : AH) : Option (List AV) := match a with
  | .tup xs => some xs
  | .ref i => match M[i]? with
    | some (.lst xs) => some xs
    | some (.frz xs) => some xs
    | _ => none
  | _ => none
def opIxS (a b : AV) (M : AH) : R AV := match b with
  | .int i => match seqA a M with
    | some xs => match atI xs i with
      | some x => .ok x M
      | none => .bad
    | none => .bad
  | _ => .bad
def cutA (xs : List AV) (lo hi : Option Int) : List AV := (xs.drop (HT.sIx xs.length 0 lo)).take (HT.sIx xs.length xs.length hi - HT.sIx xs.length 0 lo)
def opSl (a : AV) (lo hi : Option Int) (M : AH) : R AV := match a with
  | .tup xs => .ok (.tup (cutA xs lo hi)) M
  | .ref i => match M[i]? with
    | some (.lst xs) => newL (cutA xs lo hi) M
    | some (.frz xs) => newL (cutA xs lo hi) M
    | _ => .bad
  | _ => .bad
def lenA (as : List AV) (M : AH) : R AV := match as with
  | [.str s] => if s.length ≤ sizeLine then .ok (.int s.length) M else .bad
  | [.ref i] => match M[i]? with
    | some (.lst xs) => .ok (.int xs.length) M
    | some (.frz xs) => .ok (.int xs.length) M
    | some (.dct kvs) => .ok (.int kvs.length) M
    | _ => .bad
  | [.tup xs] => .ok (.int xs.length) M
  | _ => .bad
def listA (as : List AV) (M : AH) : R AV := match as with
  | [a] => match seqA a M with
    | some xs => newL xs M
    | none => .bad
  | _ => .bad
def tupleA (as : List AV) (M : AH) : R AV := match as with
  | [a] => match seqA a M with
    | some xs => .ok (.tup xs) M
    | none => .bad
  | _ => .bad
def absA (as : List AV) (M : AH) : R AV := match as with
  | [.int i] => .ok (.int (if i < 0 then -i else i)) M
  | _ => .bad
def intA (as : List AV) (M : AH) : R AV := match as with
  | [.int i] => .ok (.int i) M
  | [.bl k] => .ok (.int (if k then 1 else 0)) M
  | _ => .bad
def max2A (as : List AV) (M : AH) : R AV := match as with
  | [.int i, .int j] => .ok (.int (if j > i then j else i)) M
  | _ => .bad
def min2A (as : List AV) (M : AH) : R AV := match as with
  | [.int i, .int j] => .ok (.int (if j < i then j else i)) M
  | _ => .bad
def intsOf : List AV → Option (List Int)
  | [] => some []
  | .int i :: r => (intsOf r).map (i :: ·)
  | _ :: _ => none
def blsOf : List AV → Option (List Bool)
  | [] => some []
  | .bl i :: r => (blsOf r).map (i :: ·)
  | _ :: _ => none
def lstOf (a : AV) (M : AH) : Option (List AV) := match a with
  | .ref i => match M[i]? with
    | some (.lst xs) => some xs
    | some (.frz xs) => some xs
    | _ => none
  | _ => none
def sumA (as : List AV) (M : AH) : R AV := match as with
  | [a] => match (lstOf a M).bind intsOf with
    | some ns => .ok (.int ns.sum) M
    | none => .bad
  | _ => .bad
def anyA (as : List AV) (M : AH) : R AV := match as with
  | [a] => match (lstOf a M).bind blsOf with
    | some bs => .ok (.bl (bs.any id)) M
    | none => .bad
  | _ => .bad
def allA (as : List AV) (M : AH) : R AV := match as with
  | [a] => match (lstOf a M).bind blsOf with
    | some bs => .ok (.bl (bs.all id)) M
    | none => .bad
  | _ => .bad
def mAppend (a : AV) (as : List AV) (M : AH) : R AV := match a, as with
  | .ref i, [x] => match M[i]? with
    | some (.lst xs) => if xs.length < sizeLine then .ok .non (M.set i (.lst (xs ++ [x]))) else .bad
    | _ => .bad
  | _, _ => .bad
def mExtend (a : AV) (as : List AV) (M : AH) : R AV := match a, as with
  | .ref i, [.ref j] => match M[i]?, M[j]? with
    | some (.lst xs), some (.lst ys) => if xs.length + ys.length ≤ sizeLine then .ok .non (M.set i (.lst (xs ++ ys))) else .bad
    | _, _ => .bad
  | _, _ => .bad
def mPop0 (a : AV) (as : List AV) (M : AH) : R AV := match a, as with
  | .ref i, [] => match M[i]? with
    | some (.lst xs) => match xs[xs.length - 1]? with
      | some y => .ok y (M.set i (.lst xs.dropLast))
      | none => .bad
    | _ => .bad
  | _, _ => .bad
def mPop1 (a : AV) (as : List AV) (M : AH) : R AV := match a, as with
  | .ref i, [.int k] => match M[i]? with
    | some (.lst xs) => if -(2 ^ 63) ≤ k ∧ k < 2 ^ 63 then match ixN xs.length k with
        | some j => match xs[j]? with
          | some y => .ok y (M.set i (.lst (xs.eraseIdx j)))
          | none => .bad
        | none => .bad
      else .bad
    | _ => .bad
  | _, _ => .bad
def mClear (a : AV) (as : List AV) (M : AH) : R AV := match a, as with
  | .ref i, [] => match M[i]? with
    | some (.lst _) => .ok .non (M.set i (.lst []))
    | _ => .bad
  | _, _ => .bad
/-- xs[i] = v -/
def setL (o i v : AV) (M : AH) : R Unit := match o, i with
  | .ref j, .int k => match M[j]? with
    | some (.lst xs) => match ixN xs.length k with
      | some n => .ok () (M.set j (.lst (xs.set n v)))
      | none => .bad
    | _ => .bad
  | _, _ => .bad
/-- x in xs, of data -/
def opInS (neg : Bool) (a b : AV) (M : AH) : R AV := match datS M a, datS M b with
  | some d, some (.list ds) => .ok (.bl (if neg then !ds.any fun z => PyData.eqv z d else ds.any fun z => PyData.eqv z d)) M
  | _, _ => .bad
/-- parts of a slice -/
abbrev CO := Loc → AH → R (Option Int)
def noO : CO := fun _ M => .ok none M
def someO (c : CE) : CO := fun vs M => (c vs M).bind fun a M1 => match a with
  | .int i => .ok (some i) M1
  | _ => .bad
def sliceC (c : CE) (lo hi : CO) : CE := fun vs M => (c vs M).bind fun a M1 => (lo vs M1).bind fun l M2 => (hi vs M2).bind fun h M3 => opSl a l h M3

/-! ### they are what the machine does -/
section
variable [Tb] {X : Cx} {W : WX} {e a b : Expr} {es : List Expr} {pos p2 : Pos} {ca cb : CE} {r : CA}
theorem VRs.ints {κ : Cfg} {ι : List Addr} {H : Hp} : ∀ {xs : List AV} {ns : List Int} {vs : List V}, intsOf xs = some ns → VRs κ ι H xs vs → vs = ns.map V.int
  | [], ns, vs, e, h => by rw [h.nil_inv]; cases e; rfl
  | .int i :: xs, ns, vs, e, h => by
    obtain ⟨v, ws, rfl, r, q⟩ := h.cons_inv
    rw [vr_int] at r; subst r
    obtain ⟨m, e1, rfl⟩ := Option.map_eq_some_iff.mp e
    rw [VRs.ints e1 q]; rfl
  | .non :: _, _, _, e, _ | .bl _ :: _, _, _, e, _ | .str _ :: _, _, _, e, _ | .tup _ :: _, _, _, e, _ | .ref _ :: _, _, _, e, _ | .glo _ :: _, _, _, e, _ | .ty _ :: _, _, _, e, _ => by cases e
theorem VRs.bls {κ : Cfg} {ι : List Addr} {H : Hp} : ∀ {xs : List AV} {ns : List Bool} {vs : List V}, blsOf xs = some ns → VRs κ ι H xs vs → vs = ns.map V.bl
  | [], ns, vs, e, h => by rw [h.nil_inv]; cases e; rfl
  | .bl i :: xs, ns, vs, e, h => by
    obtain ⟨v, ws, rfl, r, q⟩ := h.cons_inv
    rw [vr_bl] at r; subst r
    obtain ⟨m, e1, rfl⟩ := Option.map_eq_some_iff.mp e
    rw [VRs.bls e1 q]; rfl
  | .non :: _, _, _, e, _ | .int _ :: _, _, _, e, _ | .str _ :: _, _, _, e, _ | .tup _ :: _, _, _, e, _ | .ref _ :: _, _, _, e, _ | .glo _ :: _, _, _, e, _ | .ty _ :: _, _, _, e, _ => by cases e
theorem lst_rel {κ : Cfg} {ι : List Addr} {M : AH} {H : Hp} (hr : Rep κ ι M H) {a : AV} {xs : List AV} {v : V} (e : lstOf a M = some xs) (h : VR κ ι H a v) : ∃ p ws, v = .ref p ∧ SqL κ.K H p ws ∧ VRs κ ι H xs ws := by
  unfold lstOf at e
  split at e
  · rename_i i
    rw [vr_ref] at h
    obtain ⟨p, ei, rfl⟩ := h
    split at e
    · rename_i ys q
      cases e
      obtain ⟨ws, h1, h2⟩ := hr.at_ q ei
      exact ⟨p, ws, rfl, SqL.of h1, h2⟩
    · rename_i ys q
      cases e
      obtain ⟨ob, ws, h1, h2⟩ := hr.at_ q ei
      exact ⟨p, ws, rfl, .inl (.inr ⟨ob, h1⟩), h2⟩
    · cases e
  · cases e
theorem seq_rel {κ : Cfg} {ι : List Addr} {M : AH} {H : Hp} (hr : Rep κ ι M H) {a : AV} {xs : List AV} {v : V} (e : seqA a M = some xs) (h : VR κ ι H a v) : ∃ p ws, v = .ref p ∧ (SqL κ.K H p ws ∨ SqT κ.K H p ws) ∧ VRs κ ι H xs ws := by
  unfold seqA at e
  split at e
  · cases e
    rw [vr_tup] at h
    obtain ⟨p, ws, rfl, hp, hw⟩ := h
    exact ⟨p, ws, rfl, .inr hp, hw⟩
  · rename_i i
    rw [vr_ref] at h
    obtain ⟨p, ei, rfl⟩ := h
    split at e
    · rename_i ys q
      cases e
      obtain ⟨ws, h1, h2⟩ := hr.at_ q ei
      exact ⟨p, ws, rfl, .inl (SqL.of h1), h2⟩
    · rename_i ys q
      cases e
      obtain ⟨ob, ws, h1, h2⟩ := hr.at_ q ei
      exact ⟨p, ws, rfl, .inl (.inl (.inr ⟨ob, h1⟩)), h2⟩
    · cases e
  · cases e
theorem atI_rel {κ : Cfg} {ι : List Addr} {H : Hp} {xs : List AV} {ws : List V} {i : Int} {x : AV} (h : VRs κ ι H xs ws) (e : atI xs i = some x) : ∃ v, atI ws i = some v ∧ VR κ ι H x v := by
  unfold atI at e ⊢
  obtain ⟨j, e1, e2⟩ := Option.bind_eq_some_iff.mp e
  obtain ⟨v, e3, r⟩ := h.get e2
  exact ⟨v, by rw [← h.length, e1]; exact e3, r⟩
theorem ix_seqA : IxR X (rd2 (kf X) W opIxS) := by
  intro value slice pins s σ0 H x y v u Q I rx ry ⟨ι, vs, M, σ, a, b, hr, ha, hb, o⟩ hs
  unfold opIxS at o
  split at o
  · rename_i i
    rw [vr_int] at hb
    split at o
    · rename_i xs e
      split at o
      · rename_i z ez
        obtain ⟨p, ws, rfl, hp, hw⟩ := seq_rel hr.rep e ha
        obtain ⟨v', e', rv⟩ := atI_rel hw ez
        have fin : Q v' H := Out.fin hr o rv
        rcases hp with hp | hp
        · exact ix_list value slice pins s σ0 H _ _ v u Q I rx ry ⟨p, ws, i, v', rfl, hb, hp, e', fin⟩ hs
        · exact ix_tup value slice pins s σ0 H _ _ v u Q I rx ry ⟨p, ws, i, v', rfl, hb, hp, e', fin⟩ hs
      · exact o.elim
    · exact o.elim
  · exact o.elim
theorem ev_ix {op : AV → AV → AH → R AV} (hi : IxR X (rd2 (kf X) W op)) (ha : EvE X W a ca) (hb : EvE X W b cb) (hs : PlainIx b := by exact fun _ _ => rfl) : EvE X W (.Subscript a b pos) (bin2 op ca cb) :=
  PE.imp (pe_ix hi ha hb hs) fun σ H Q h => two_vals h
/-! slices -/
theorem cut_rel {κ : Cfg} {ι : List Addr} {H : Hp} {xs : List AV} {ws : List V} (lo hi : Option Int) (h : VRs κ ι H xs ws) : VRs κ ι H (cutA xs lo hi) (cutV ws lo hi) := by
  unfold cutA cutV
  rw [← h.length]
  exact (h.drop _).take _
def rdSl (κ : Cfg) (W : WX) : V → Option Int → Option Int → Hp → VK → Prop := fun x lo hi H Q => ∃ ι vs M σ a, Rel κ ι vs M σ H ∧ VR κ ι H a x ∧ Out κ W (VR κ) ι vs σ H Q (opSl a lo hi M)
theorem sl_all : SlR X (rdSl (kf X) W) := by
  intro pins s σ0 H x v vl vu lo hi sl Q I rx hs pl pu ⟨ι, vs, M, σ, a, hr, ha, o⟩
  unfold opSl at o
  split at o
  · rename_i xs
    rw [vr_tup] at ha
    obtain ⟨p, ws, rfl, hp, hw⟩ := ha
    refine sl_tupA pins s σ0 H _ v vl vu lo hi sl Q I rx hs pl pu ⟨p, ws, rfl, hp, fun e => ?_, fun _ => Out.newT hr (cut_rel lo hi hw) o⟩
    refine Out.fin hr o ?_
    rw [vr_tup]
    refine ⟨p, ws, rfl, hp, ?_⟩
    have h := cut_rel lo hi hw
    unfold cutV at h
    rw [e.1, e.2] at h
    simpa using h
  · rename_i i
    rw [vr_ref] at ha
    obtain ⟨p, ei, rfl⟩ := ha
    split at o
    · rename_i xs q
      obtain ⟨ws, h1, h2⟩ := hr.rep.at_ q ei
      obtain ⟨_, n⟩ := Out.newL hr (cut_rel lo hi h2) o
      exact sl_list pins s σ0 H _ v vl vu lo hi sl Q I rx hs pl pu ⟨p, ws, rfl, SqL.of h1, n⟩
    · rename_i xs q
      obtain ⟨ob, ws, h1, h2⟩ := hr.rep.at_ q ei
      obtain ⟨_, n⟩ := Out.newL hr (cut_rel lo hi h2) o
      exact sl_list pins s σ0 H _ v vl vu lo hi sl Q I rx hs pl pu ⟨p, ws, rfl, .inl (.inr ⟨ob, h1⟩), n⟩
    · exact o.elim
  · exact o.elim
abbrev relO : List Addr → Hp → Option Int → Option Int → Prop := fun _ _ a b => a = b
abbrev EvO (X : Cx) (W : WX) (e : Option Expr) (c : CO) : Prop := PO X e (rd (kf X) W relO c)
theorem PO.imp {e : Option Expr} {t t' : TO} (h : PO X e t) (k : ∀ σ H Q, t' σ H Q → t σ H Q) : PO X e t' := ⟨fun pins s σ H Q I q => h.run pins s σ H Q I (k σ H Q q)⟩
theorem eo_none : EvO X W none noO := PO.imp po_none fun σ H Q ⟨ι, vs, M, hr, o⟩ => Out.fin hr o rfl
theorem eo_some (h : EvE X W e ca) : EvO X W (some e) (someO ca) := PO.imp (po_some h) fun σ H Q ⟨ι, vs, M, hr, o⟩ => Out.run hr o fun ι1 a M1 v H1 h1 h2 h3 h4 h5 => by
  cases a with
  | int i =>
    rw [vr_int] at h4
    exact ⟨i, h4, Out.fin h3 h5 rfl⟩
  | _ => exact h5.elim
theorem ev_slice {lo hi : Option Expr} {cl ch : CO} (he : EvE X W e ca) (hl : EvO X W lo cl) (hh : EvO X W hi ch) : EvE X W (.Subscript e (.Slice lo hi none p2) pos) (sliceC ca cl ch) :=
  PE.imp (pe_slice sl_all he hl hh) fun σ H Q ⟨ι, vs, M, hr, o⟩ => Out.run hr o fun ι1 a M1 v H1 h1 h2 h3 h4 h5 => Out.run h3 h5 fun ι2 l M2 l' H2 g1 g2 g3 g4 g5 => Out.run g3 g5 fun ι3 h M3 h' H3 k1 k2 k3 k4 k5 => by
    subst g4; subst k4
    exact ⟨ι3, vs, M3, σ, a, k3, (h4.mono g1 g2).mono k1 k2, k5⟩
/-! built-ins -/
theorem cr_len : CallR X (.builtin "len") (rdN (kf X) W lenA) := by
  intro pins s σ0 H xs us Q I r ⟨ι, vs, M, σ, as, hr, ha, o⟩
  unfold lenA at o
  split at o
  · rename_i z
    split at o
    · rename_i hz
      obtain ⟨v, ws, rfl, h1, h2⟩ := ha.cons_inv
      obtain rfl := h2.nil_inv
      rw [vr_str] at h1; subst h1
      exact call_len pins s σ0 H _ us Q I r ⟨_, z.length, rfl, ⟨hz, rfl⟩, Out.fin hr o (by rw [vr_int])⟩
    · exact o.elim
  · rename_i i
    obtain ⟨v, ws, rfl, h1, h2⟩ := ha.cons_inv
    obtain rfl := h2.nil_inv
    rw [vr_ref] at h1
    obtain ⟨p, ei, rfl⟩ := h1
    split at o
    · rename_i xs q
      obtain ⟨ws, g1, g2⟩ := hr.rep.at_ q ei
      exact call_len pins s σ0 H _ us Q I r ⟨_, xs.length, rfl, .inl ⟨ws, SqL.of g1, g2.length⟩, Out.fin hr o (by rw [vr_int])⟩
    · rename_i xs q
      obtain ⟨ob, ws, g1, g2⟩ := hr.rep.at_ q ei
      exact call_len pins s σ0 H _ us Q I r ⟨_, xs.length, rfl, .inl ⟨ws, .inl (.inr ⟨ob, g1⟩), g2.length⟩, Out.fin hr o (by rw [vr_int])⟩
    · rename_i kvs q
      rcases hr.rep.at_ q ei with ⟨gs, g1, g2⟩ | ⟨ks, g1, g2, _⟩
      · obtain ⟨u, rfl, ru⟩ := vals1 r
        cases ru
        exact d_len I (.inl g1) fun t s' I' => ⟨.int gs.length, H, I', ⟨t, rfl⟩, Out.fin hr o (by rw [vr_int, Paired.length g2])⟩
      · obtain ⟨u, rfl, ru⟩ := vals1 r
        cases ru
        obtain ⟨z1, z2, xs, z3, z4⟩ := nd_at I g1 g2
        have l1 := Paired.length g2
        have l2 := Paired.length z4
        have hl := line63
        exact call_len_dictH z1 z3 (by rw [← l2]; omega) ⟨.int xs.length, H, I.tok _, ⟨_, rfl⟩, Out.fin hr o (by rw [vr_int, l1, l2])⟩
    · exact o.elim
  · rename_i xs
    obtain ⟨v, ws, rfl, h1, h2⟩ := ha.cons_inv
    obtain rfl := h2.nil_inv
    rw [vr_tup] at h1
    obtain ⟨p, us', rfl, g1, g2⟩ := h1
    exact call_len pins s σ0 H _ us Q I r ⟨_, xs.length, rfl, .inr ⟨us', g1, g2.length⟩, Out.fin hr o (by rw [vr_int])⟩
  · exact o.elim
theorem cr_list : CallR X (.type "list") (rdN (kf X) W listA) := by
  intro pins s σ0 H xs us Q I r ⟨ι, vs, M, σ, as, hr, ha, o⟩
  unfold listA at o
  split at o
  · split at o
    · rename_i a xs e
      obtain ⟨v, ws, rfl, h1, h2⟩ := ha.cons_inv
      obtain rfl := h2.nil_inv
      obtain ⟨p, zs, rfl, hp, hz⟩ := seq_rel hr.rep e h1
      exact call_list_of pins s σ0 H _ us Q I r ⟨p, zs, rfl, hp, (Out.newL hr hz o).2⟩
    · exact o.elim
  · exact o.elim
theorem cr_tuple : CallR X (.type "tuple") (rdN (kf X) W tupleA) := by
  intro pins s σ0 H xs us Q I r ⟨ι, vs, M, σ, as, hr, ha, o⟩
  unfold tupleA at o
  split at o
  · split at o
    · rename_i a xs e
      obtain ⟨v, ws, rfl, h1, h2⟩ := ha.cons_inv
      obtain rfl := h2.nil_inv
      obtain ⟨p, zs, rfl, hp, hz⟩ := seq_rel hr.rep e h1
      refine call_tuple_of pins s σ0 H _ us Q I r ⟨p, zs, rfl, ?_⟩
      rcases hp with hp | hp
      · exact .inl ⟨hp, Out.newT hr hz o⟩
      · refine .inr ⟨hp, Out.fin hr o ?_⟩
        rw [vr_tup]
        exact ⟨p, zs, rfl, hp, hz⟩
    · exact o.elim
  · exact o.elim
theorem cr_abs : CallR X (.builtin "abs") (rdN (kf X) W absA) := by
  intro pins s σ0 H xs us Q I r ⟨ι, vs, M, σ, as, hr, ha, o⟩
  unfold absA at o
  split at o
  · obtain ⟨v, ws, rfl, h1, h2⟩ := ha.cons_inv
    obtain rfl := h2.nil_inv
    rw [vr_int] at h1; subst h1
    exact call_abs pins s σ0 H _ us Q I r ⟨_, rfl, Out.fin hr o (by rw [vr_int])⟩
  · exact o.elim
theorem cr_int : CallR X (.type "int") (rdN (kf X) W intA) := by
  intro pins s σ0 H xs us Q I r ⟨ι, vs, M, σ, as, hr, ha, o⟩
  unfold intA at o
  split at o
  · obtain ⟨v, ws, rfl, h1, h2⟩ := ha.cons_inv
    obtain rfl := h2.nil_inv
    rw [vr_int] at h1; subst h1
    exact call_int1 pins s σ0 H _ us Q I r (.inl ⟨_, rfl, Out.fin hr o (by rw [vr_int])⟩)
  · obtain ⟨v, ws, rfl, h1, h2⟩ := ha.cons_inv
    obtain rfl := h2.nil_inv
    rw [vr_bl] at h1; subst h1
    exact call_int1 pins s σ0 H _ us Q I r (.inr ⟨_, rfl, Out.fin hr o (by rw [vr_int])⟩)
  · exact o.elim
theorem cr_max2 (hc : X.calm = true) : CallR X (.builtin "max") (rdN (kf X) W max2A) := by
  intro pins s σ0 H xs us Q I r ⟨ι, vs, M, σ, as, hr, ha, o⟩
  unfold max2A at o
  split at o
  · obtain ⟨v, ws, rfl, h1, h2⟩ := ha.cons_inv
    obtain ⟨v', ws', rfl, h3, h4⟩ := h2.cons_inv
    obtain rfl := h4.nil_inv
    rw [vr_int] at h1 h3; subst h1; subst h3
    exact call_max2 hc pins s σ0 H _ us Q I r ⟨_, _, rfl, Out.fin hr o (by rw [vr_int])⟩
  · exact o.elim
theorem cr_min2 (hc : X.calm = true) : CallR X (.builtin "min") (rdN (kf X) W min2A) := by
  intro pins s σ0 H xs us Q I r ⟨ι, vs, M, σ, as, hr, ha, o⟩
  unfold min2A at o
  split at o
  · obtain ⟨v, ws, rfl, h1, h2⟩ := ha.cons_inv
    obtain ⟨v', ws', rfl, h3, h4⟩ := h2.cons_inv
    obtain rfl := h4.nil_inv
    rw [vr_int] at h1 h3; subst h1; subst h3
    exact call_min2 hc pins s σ0 H _ us Q I r ⟨_, _, rfl, Out.fin hr o (by rw [vr_int])⟩
  · exact o.elim
theorem cr_sumA (hc : X.calm = true) : CallR X (.builtin "sum") (rdN (kf X) W sumA) := by
  intro pins s σ0 H xs us Q I r ⟨ι, vs, M, σ, as, hr, ha, o⟩
  unfold sumA at o
  split at o
  · split at o
    · rename_i a ns e
      obtain ⟨xs', e1, e2⟩ := Option.bind_eq_some_iff.mp e
      obtain ⟨v, ws, rfl, h1, h2⟩ := ha.cons_inv
      obtain rfl := h2.nil_inv
      obtain ⟨p, zs, rfl, hp, hz⟩ := lst_rel hr.rep e1 h1
      rw [hz.ints e2] at hp
      exact cr_sum hc pins s σ0 H _ us Q I r ⟨p, ns, rfl, hp, Out.fin hr o (by rw [vr_int])⟩
    · exact o.elim
  · exact o.elim
theorem cr_anyA (hc : X.calm = true) : CallR X (.builtin "any") (rdN (kf X) W anyA) := by
  intro pins s σ0 H xs us Q I r ⟨ι, vs, M, σ, as, hr, ha, o⟩
  unfold anyA at o
  split at o
  · split at o
    · rename_i a ns e
      obtain ⟨xs', e1, e2⟩ := Option.bind_eq_some_iff.mp e
      obtain ⟨v, ws, rfl, h1, h2⟩ := ha.cons_inv
      obtain rfl := h2.nil_inv
      obtain ⟨p, zs, rfl, hp, hz⟩ := lst_rel hr.rep e1 h1
      rw [hz.bls e2] at hp
      exact cr_any hc pins s σ0 H _ us Q I r ⟨p, ns, rfl, hp, Out.fin hr o (by rw [vr_bl])⟩
    · exact o.elim
  · exact o.elim
theorem cr_allA (hc : X.calm = true) : CallR X (.builtin "all") (rdN (kf X) W allA) := by
  intro pins s σ0 H xs us Q I r ⟨ι, vs, M, σ, as, hr, ha, o⟩
  unfold allA at o
  split at o
  · split at o
    · rename_i a ns e
      obtain ⟨xs', e1, e2⟩ := Option.bind_eq_some_iff.mp e
      obtain ⟨v, ws, rfl, h1, h2⟩ := ha.cons_inv
      obtain rfl := h2.nil_inv
      obtain ⟨p, zs, rfl, hp, hz⟩ := lst_rel hr.rep e1 h1
      rw [hz.bls e2] at hp
      exact cr_all hc pins s σ0 H _ us Q I r ⟨p, ns, rfl, hp, Out.fin hr o (by rw [vr_bl])⟩
    · exact o.elim
  · exact o.elim
/-! methods of lists -/
/-- a list of ours is written -/
theorem Out.setO {β : Type} {α : Type} {rel : List Addr → Hp → α → β → Prop} {κ : Cfg} {ι : List Addr} {vs : Loc} {M : AH} {σ : L2.St} {H : Hp} {Q : β → Hp → Prop} {a : α} {b : β} {i : Nat} {p : Addr} {xs' : List AV} {ws ws' : List V} (hr : Rel κ ι vs M σ H) (ei : ι[i]? = some p) (hp : H p = some (.lst ws))
    (hx : VRs κ ι H xs' ws') (o : Out κ W rel ι vs σ H Q (.ok a (M.set i (.lst xs')))) (h : ∀ H', Keep H H' → rel ι H' a b) : Q b (upd H p (.lst ws')) := by
  have hk : Keep H (upd H p (.lst ws')) := Keep.mut hp (fun _ z => by cases z) fun _ _ z => by cases z
  exact o ι _ _ (List.prefix_refl _) hk (hr.set ei hp hk ⟨ws', upd_same, hx.mono (List.prefix_refl _) hk⟩ fun _ z => by cases z) (h _ hk)
theorem mt_app : MtM X "list.append" (rdM (kf X) W mAppend) := by
  intro pins s σ0 H x xs v us Q I rx rv ⟨ι, vs, M, σ, a, as, hr, ha, has, o⟩
  unfold mAppend at o
  split at o
  · rename_i i y
    rw [vr_ref] at ha
    obtain ⟨p, ei, rfl⟩ := ha
    obtain ⟨w, ws0, rfl, h1, h2⟩ := has.cons_inv
    obtain rfl := h2.nil_inv
    split at o
    · rename_i ys q
      split at o
      · rename_i hz
        obtain ⟨ws, g1, g2⟩ := hr.rep.at_ q ei
        exact mt_append pins s σ0 H _ _ v us Q I rx rv ⟨p, ws, w, rfl, rfl, g1, by rw [← g2.length]; exact hz, Out.setO hr ei g1 (g2.app (.cons h1 .nil)) o fun _ _ => by rw [vr_non]⟩
      · exact o.elim
    · exact o.elim
  · exact o.elim
theorem mt_ext : MtM X "list.extend" (rdM (kf X) W mExtend) := by
  intro pins s σ0 H x xs v us Q I rx rv ⟨ι, vs, M, σ, a, as, hr, ha, has, o⟩
  unfold mExtend at o
  split at o
  · rename_i i j
    rw [vr_ref] at ha
    obtain ⟨p, ei, rfl⟩ := ha
    obtain ⟨w, ws0, rfl, h1, h2⟩ := has.cons_inv
    rw [vr_ref] at h1
    obtain ⟨p2, ej, rfl⟩ := h1
    obtain rfl := h2.nil_inv
    split at o
    · rename_i ys zs q q2
      split at o
      · rename_i hz
        obtain ⟨ws, g1, g2⟩ := hr.rep.at_ q ei
        obtain ⟨ws2, k1, k2⟩ := hr.rep.at_ q2 ej
        exact mt_extend pins s σ0 H _ _ v us Q I rx rv ⟨p, p2, ws, ws2, rfl, rfl, g1, k1, by rw [← g2.length, ← k2.length]; exact hz, Out.setO hr ei g1 (g2.app k2) o fun _ _ => by rw [vr_non]⟩
      · exact o.elim
    · exact o.elim
  · exact o.elim
theorem mt_pop0 : MtM X "list.pop" (rdM (kf X) W mPop0) := by
  intro pins s σ0 H x xs v us Q I rx rv ⟨ι, vs, M, σ, a, as, hr, ha, has, o⟩
  unfold mPop0 at o
  split at o
  · rename_i i
    rw [vr_ref] at ha
    obtain ⟨p, ei, rfl⟩ := ha
    obtain rfl := has.nil_inv
    split at o
    · rename_i ys q
      split at o
      · rename_i y ey
        obtain ⟨ws, g1, g2⟩ := hr.rep.at_ q ei
        obtain ⟨w, ew, rw'⟩ := g2.get ey
        exact mt_pop pins s σ0 H _ _ v us Q I rx rv ⟨p, ws, w, rfl, rfl, g1, by rw [← g2.length]; exact ew, Out.setO hr ei g1 g2.dropLast o fun _ k => rw'.mono (List.prefix_refl _) k⟩
      · exact o.elim
    · exact o.elim
  · exact o.elim
theorem mt_pop1 : MtM X "list.pop" (rdM (kf X) W mPop1) := by
  intro pins s σ0 H x xs v us Q I rx rv ⟨ι, vs, M, σ, a, as, hr, ha, has, o⟩
  unfold mPop1 at o
  split at o
  · rename_i i k
    rw [vr_ref] at ha
    obtain ⟨p, ei, rfl⟩ := ha
    obtain ⟨w0, ws0, rfl, h1, h2⟩ := has.cons_inv
    rw [vr_int] at h1; subst h1
    obtain rfl := h2.nil_inv
    split at o
    · rename_i ys q
      split at o
      · rename_i hk
        split at o
        · rename_i j ej
          split at o
          · rename_i y ey
            obtain ⟨ws, g1, g2⟩ := hr.rep.at_ q ei
            obtain ⟨w, ew, rw'⟩ := g2.get ey
            refine mt_popAt pins s σ0 H _ _ v us Q I rx rv ⟨p, ws, k, j, w, rfl, rfl, g1, hk.1, hk.2, ?_, ew, Out.setO hr ei g1 (g2.erase j) o fun _ k => rw'.mono (List.prefix_refl _) k⟩
            rw [← g2.length]
            exact (ixN_seq ej).1
          · exact o.elim
        · exact o.elim
      · exact o.elim
    · exact o.elim
  · exact o.elim
theorem mt_clr : MtM X "list.clear" (rdM (kf X) W mClear) := by
  intro pins s σ0 H x xs v us Q I rx rv ⟨ι, vs, M, σ, a, as, hr, ha, has, o⟩
  unfold mClear at o
  split at o
  · rename_i i
    rw [vr_ref] at ha
    obtain ⟨p, ei, rfl⟩ := ha
    obtain rfl := has.nil_inv
    split at o
    · rename_i ys q
      obtain ⟨ws, g1, g2⟩ := hr.rep.at_ q ei
      exact mt_clear pins s σ0 H _ _ v us Q I rx rv ⟨p, ws, rfl, rfl, g1, Out.setO hr ei g1 .nil o fun _ _ => by rw [vr_non]⟩
    · exact o.elim
  · exact o.elim
/-! in -/
theorem dp_list {K : PySem.W.Frag} {H : Hp} {v : V} {ds : List PyData} (h : Dp K H v (.list ds)) : Dp K H v (.list ds) := h
theorem ok_in (hu : X.A.units + 65 < cLine) : OpR X (compareOp .In) (rd2 (kf X) W (opInS false)) := by
  intro pins s σ0 H x y v u Q I rx ry ⟨ι, vs, M, σ, a, b, hr, ha, hb, o⟩
  unfold opInS at o
  split at o
  · rename_i d ds h1 h2
    obtain ⟨d1, s1⟩ := datS_dp hr.rep h1 ha
    obtain ⟨d2, s2⟩ := datS_dp hr.rep h2 hb
    exact op_inD hu pins s σ0 H x y v u Q I rx ry ⟨d, ds, d1, d2, s1, s2, Out.fin hr o (by rw [vr_bl]; rfl)⟩
  · exact o.elim
theorem ok_notin (hu : X.A.units + 65 < cLine) : OpR X (compareOp .NotIn) (rd2 (kf X) W (opInS true)) := by
  intro pins s σ0 H x y v u Q I rx ry ⟨ι, vs, M, σ, a, b, hr, ha, hb, o⟩
  unfold opInS at o
  split at o
  · rename_i d ds h1 h2
    obtain ⟨d1, s1⟩ := datS_dp hr.rep h1 ha
    obtain ⟨d2, s2⟩ := datS_dp hr.rep h2 hb
    exact op_notInD hu pins s σ0 H x y v u Q I rx ry ⟨d, ds, d1, d2, s1, s2, Out.fin hr o (by rw [vr_bl]; rfl)⟩
  · exact o.elim
/-! stores -/
def rdSet (κ : Cfg) (W : WX) (op : AV → AV → AV → AH → R Unit) : V → V → V → Hp → (Hp → Prop) → Prop := fun o i v H Q =>
  ∃ ι vs M σ a b c, Rel κ ι vs M σ H ∧ VR κ ι H a o ∧ VR κ ι H b i ∧ VR κ ι H c v ∧ Out κ W (fun _ _ (_ : Unit) (_ : Unit) => True) ι vs σ H (fun _ => Q) (op a b c M)
theorem st_list : PSet X (rdSet (kf X) W setL) := by
  intro pins s σ0 H o i v ov iv u Q I ro ri rv ⟨ι, vs, M, σ, a, b, c, hr, ha, hb, hc, oo⟩
  unfold setL at oo
  split at oo
  · rename_i j k
    rw [vr_ref] at ha
    obtain ⟨p, ei, rfl⟩ := ha
    rw [vr_int] at hb
    split at oo
    · rename_i xs q
      split at oo
      · rename_i n en
        obtain ⟨ws, g1, g2⟩ := hr.rep.at_ q ei
        exact set_list pins s σ0 H _ _ v ov iv u Q I ro ri rv ⟨p, ws, k, n, rfl, hb, g1, by rw [← g2.length]; exact en, Out.setO hr ei g1 (g2.set n hc) (b := ()) oo fun _ _ => trivial⟩
      · exact oo.elim
    · exact oo.elim
  · exact oo.elim
end
end AM
end

section
set_option Elab.async false
set_option linter.all false
set_option autoImplicit false
set_option maxRecDepth 100000
set_option maxHeartbeats 4000000
/-! AM 5: dicts. -/
namespace AM
open PySem PySem.Spec L2

def isFl : AV → Bool
  | .int _ => true
  | .str _ => true
  | _ => false
def isTp : AV → Bool
  | .tup _ => true
  | _ => false
/-- a key that a dict with these entries can be asked for; which kind -/
def dOk (a : AV) (k : NestedKey) (kvs : List (AV × AV)) : Bool := (isFl a && kvs.all fun p => isFl p.1) || (isTp a && (kvs.all fun p => isTp p.1) && decide (k.depth ≤ 8))
def dfind (kvs : List (AV × AV)) (k : NestedKey) : Option AV := (kvs.find? fun p => decide (p.1.key = some k)).map (·.2)
def dhas (kvs : List (AV × AV)) (k : NestedKey) : Bool := kvs.any fun p => decide (p.1.key = some k)
def dput (kvs : List (AV × AV)) (a : AV) (k : NestedKey) (v : AV) : List (AV × AV) :=
  if dhas kvs k = true then kvs.map fun p => if p.1.key = some k then (p.1, v) else p else kvs ++ [(a, v)]
def dctOf (a : AV) (M : AH) : Option (Nat × List (AV × AV)) := match a with
  | .ref i => match M[i]? with
    | some (.dct kvs) => some (i, kvs)
    | _ => none
  | _ => none
/-- a dict and a key -/
def dk2 {α : Type} (d a : AV) (M : AH) (f : Nat → List (AV × AV) → NestedKey → R α) : R α := match dctOf d M, a.key with
  | some (i, kvs), some k => if dOk a k kvs = true then f i kvs k else .bad
  | _, _ => .bad
def dGetA (d a : AV) (M : AH) : R AV := dk2 d a M fun _ kvs k => match dfind kvs k with
  | some v => .ok v M
  | none => .bad
def dInA (neg : Bool) (a d : AV) (M : AH) : R AV := dk2 d a M fun _ kvs k => .ok (.bl (if neg then !dhas kvs k else dhas kvs k)) M
def dPutA (d a v : AV) (M : AH) : R Unit := dk2 d a M fun i kvs k => if kvs.length < sizeLine then .ok () (M.set i (.dct (dput kvs a k v))) else .bad
def newD (M : AH) : R AV := .ok (.ref M.length) (M ++ [.dct []])
def mGet (d : AV) (as : List AV) (M : AH) : R AV := match as with
  | [a] => dk2 d a M fun _ kvs k => .ok ((dfind kvs k).getD .non) M
  | [a, x] => dk2 d a M fun _ kvs k => .ok ((dfind kvs k).getD x) M
  | _ => .bad
def mSetd (d : AV) (as : List AV) (M : AH) : R AV := match as with
  | [a, x] => dk2 d a M fun i kvs k => match dfind kvs k with
    | some v => .ok v M
    | none => if kvs.length < sizeLine then .ok x (M.set i (.dct (dput kvs a k x))) else .bad
  | _ => .bad

/-! ### views -/
section
variable [Tb] {X : Cx} {W : WX} {pins : List (Addr × Obj)} {σ0 : L2.St} {s : Shared} {κ : Cfg} {ι : List Addr} {H : Hp} {a : Addr} {kvs : List (AV × AV)}
theorem KR.key {a : AV} {y : Key} (h : KR a y) : ∃ k, a.key = some k ∧ ∀ {b : AV} {z : Key}, KR b z → (b.key = some k ↔ z = y) := by
  cases h with
  | int i =>
    refine ⟨.num i, rfl, fun {b z} h => ?_⟩
    cases h with
    | int j => rw [AV.key]; constructor <;> intro e <;> cases e <;> rfl
    | str j => rw [AV.key]; constructor <;> intro e <;> cases e
  | str i =>
    refine ⟨.text i, rfl, fun {b z} h => ?_⟩
    cases h with
    | int j => rw [AV.key]; constructor <;> intro e <;> cases e
    | str j => rw [AV.key]; constructor <;> intro e <;> cases e <;> rfl
theorem fl_kr {a : AV} (h : isFl a = true) : ∃ y, KR a y := by
  cases a with
  | int i => exact ⟨_, .int i⟩
  | str i => exact ⟨_, .str i⟩
  | _ => cases h
/-- a dict with flat keys as the library tells it -/
def FlV (X : Cx) (ι : List Addr) (H : Hp) (h : Heap) (a : Addr) (kvs : List (AV × AV)) (gs : List (Key × V)) (vs : List (Key × Value)) : Prop :=
  (a == sysModules) = false ∧ gs.length ≤ sizeLine ∧ DR (kf X) ι H kvs gs ∧ KV gs vs ∧ h.DictOf (mixKind X.prog X.w) a vs
def TpV (X : Cx) (ι : List Addr) (H : Hp) (h : Heap) (a : Addr) (kvs : List (AV × AV)) (ks : List (NestedKey × Addr × V)) (xs : List (NestedKey × Addr × Value)) : Prop :=
  (a == sysModules) = false ∧ ks.length ≤ sizeLine ∧ TR (kf X) ι H kvs ks ∧ NR ks xs ∧ h.DictOfH (nestedKind X.prog X.w) a xs
theorem dr_fl {gs : List (Key × V)} (h : DR κ ι H kvs gs) (t : kvs.all (fun p => isTp p.1) = true) : kvs = [] ∧ gs = [] := by
  cases kvs with
  | nil => cases h; exact ⟨rfl, rfl⟩
  | cons p r =>
    obtain ⟨p1, p2⟩ := p
    rw [List.all_cons] at t
    obtain ⟨t1, _⟩ := Bool.and_eq_true_iff.mp t
    cases h with
    | @cons _ q _ _ rr _ =>
      obtain ⟨q1, q2⟩ := q
      obtain ⟨r1, _⟩ := rr
      cases p1 with
      | tup xs => cases r1
      | _ => cases t1
theorem tr_tp {ks : List (NestedKey × Addr × V)} (h : TR κ ι H kvs ks) (t : kvs.all (fun p => isFl p.1) = true) : kvs = [] ∧ ks = [] := by
  cases kvs with
  | nil => cases h; exact ⟨rfl, rfl⟩
  | cons p r =>
    obtain ⟨p1, p2⟩ := p
    rw [List.all_cons] at t
    obtain ⟨t1, _⟩ := Bool.and_eq_true_iff.mp t
    cases h with
    | @cons _ q _ _ rr _ =>
      obtain ⟨_, r2, _⟩ := rr
      cases p1 with
      | int i => rw [vr_int] at r2; cases r2
      | str i => rw [vr_str] at r2; cases r2
      | _ => cases t1
theorem flV (I : Inv X pins σ0 H s) (o : OR (kf X) ι H (.dct kvs) a) (t : kvs.all (fun p => isFl p.1) = true) : ∃ gs vs, FlV X ι H s.heap a kvs gs vs := by
  rcases o with ⟨gs, h1, h2⟩ | ⟨ks, h1, h2, hne⟩
  · obtain ⟨z, hd, vs, rel, dd⟩ := dk_rd I.hok (.inl h1)
    exact ⟨gs, vs, hd, z, h2, rel, dd⟩
  · obtain ⟨z1, z2, xs, z3, z4⟩ := nd_at I h1 h2
    obtain ⟨rfl, rfl⟩ := tr_tp h2 t
    cases z4
    obtain ⟨o, es, ep, ho, hx, hd, he, _, _⟩ := z3
    have e0 : es = #[] := by
      have : es.toList = [] := he
      simpa using this
    subst e0
    refine ⟨[], [], z1, by simp, .nil, .nil, o, #[], ep, ho, hx, hd, ?_, ?_, List.nodup_nil⟩
    · intro j hj; simp at hj
    · exact .nil
theorem tpV (I : Inv X pins σ0 H s) (o : OR (kf X) ι H (.dct kvs) a) (t : kvs.all (fun p => isTp p.1) = true) : ∃ ks xs, TpV X ι H s.heap a kvs ks xs := by
  rcases o with ⟨gs, h1, h2⟩ | ⟨ks, h1, h2, hne⟩
  · obtain ⟨z, hd, vs, rel, dd⟩ := dk_rd I.hok (.inl h1)
    obtain ⟨rfl, rfl⟩ := dr_fl h2 t
    cases rel
    obtain ⟨o, es, ep, ho, hx, hda, hk, hp, hn⟩ := dd
    have e0 : es.toList = [] := by
      cases q : es.toList with
      | nil => rfl
      | cons e r => rw [q] at hp; cases hp
    exact ⟨[], [], hd, by simp, .nil, .nil, o, es, ep, ho, hx, hda, by rw [e0]; rfl, fun _ z => by simp at z, List.nodup_nil⟩
  · obtain ⟨z1, z2, xs, z3, z4⟩ := nd_at I h1 h2
    exact ⟨ks, xs, z1, z2, h2, z4, z3⟩
end
/-! ### finding, storing -/
inductive OptR {α β : Type} (r : α → β → Prop) : Option α → Option β → Prop
  | none : OptR r none none
  | some {a : α} {b : β} : r a b → OptR r (some a) (some b)
theorem OptR.isSome {α β : Type} {r : α → β → Prop} {a : Option α} {b : Option β} (h : OptR r a b) : a.isSome = b.isSome := by cases h <;> rfl
theorem dfind_cons {p : AV × AV} {r : List (AV × AV)} {k : NestedKey} : dfind (p :: r) k = if p.1.key = some k then some p.2 else dfind r k := by
  unfold dfind
  by_cases h : p.1.key = some k
  · rw [if_pos h, List.find?_cons, decide_eq_true h]; rfl
  · rw [if_neg h, List.find?_cons, decide_eq_false h]
theorem dhas_find (kvs : List (AV × AV)) (k : NestedKey) : dhas kvs k = (dfind kvs k).isSome := by
  induction kvs with
  | nil => rfl
  | cons p r ih =>
    rw [dfind_cons]
    unfold dhas at ih ⊢
    rw [List.any_cons]
    by_cases h : p.1.key = some k
    · rw [decide_eq_true h, if_pos h]; rfl
    · rw [decide_eq_false h, if_neg h, ← ih]; rfl
theorem valueAt_cons {K : Type} [DecidableEq K] {p : K × Value} {r : List (K × Value)} {k : K} : valueAt (p :: r) k = if p.1 = k then some p.2 else valueAt r k := by
  unfold valueAt
  by_cases h : p.1 = k
  · rw [if_pos h, List.find?_cons, decide_eq_true h]; rfl
  · rw [if_neg h, List.find?_cons, decide_eq_false h]
theorem atKey_cons {p : NestedKey × Addr × Value} {r : List (NestedKey × Addr × Value)} {k : NestedKey} : atKey (p :: r) k = if p.1 = k then some p.2 else atKey r k := by
  unfold atKey
  by_cases h : p.1 = k
  · rw [if_pos h, List.find?_cons, decide_eq_true h]; rfl
  · rw [if_neg h, List.find?_cons, decide_eq_false h]
section
variable [Tb] {X : Cx} {W : WX} {pins : List (Addr × Obj)} {σ0 : L2.St} {s : Shared} {κ : Cfg} {ι : List Addr} {H : Hp} {a : Addr} {kvs : List (AV × AV)}
abbrev VRV (κ : Cfg) (ι : List Addr) (H : Hp) (x : AV) (u : Value) : Prop := ∃ v, VR κ ι H x v ∧ RelV v u
theorem fl_find {b : AV} {y : Key} {k : NestedKey} (hb : KR b y) (hk : b.key = some k) : ∀ {kvs : List (AV × AV)} {gs : List (Key × V)} {vs : List (Key × Value)}, DR κ ι H kvs gs → KV gs vs → OptR (VRV κ ι H) (dfind kvs k) (valueAt vs y)
  | _, _, _, .nil, .nil => .none
  | p :: _, _, _, .cons r t, .cons q n => by
    rw [dfind_cons, valueAt_cons]
    obtain ⟨k', e1, e2⟩ := hb.key
    have ek : k = k' := by rw [hk] at e1; exact Option.some.inj e1
    subst ek
    have := e2 r.1
    rw [q.1] at this
    by_cases h : p.1.key = some k
    · rw [if_pos h, if_pos (this.mp h)]
      exact .some ⟨_, r.2, q.2⟩
    · rw [if_neg h, if_neg fun z => h (this.mpr z)]
      exact fl_find hb hk t n
theorem tp_find {k : NestedKey} : ∀ {kvs : List (AV × AV)} {ks : List (NestedKey × Addr × V)} {xs : List (NestedKey × Addr × Value)}, TR κ ι H kvs ks → NR ks xs → OptR (fun x (p : Addr × Value) => VRV κ ι H x p.2) (dfind kvs k) (atKey xs k)
  | _, _, _, .nil, .nil => .none
  | p :: _, _, _, .cons r t, .cons q n => by
    rw [dfind_cons, atKey_cons]
    have e : ∀ {p : AV × AV} {q : NestedKey}, p.1.key = some q → (p.1.key = some k ↔ q = k) := fun {p q} e => by rw [e]; exact ⟨Option.some.inj, fun z => by rw [z]⟩
    have e1 := e r.1
    rw [q.1] at e1
    by_cases h : p.1.key = some k
    · rw [if_pos h, if_pos (e1.mp h)]
      exact .some ⟨_, r.2.2.2, q.2.2⟩
    · rw [if_neg h, if_neg fun z => h (e1.mpr z)]
      exact tp_find t n
theorem DR.app {l l' : List (AV × AV)} {g g' : List (Key × V)} (h : DR κ ι H l g) (h' : DR κ ι H l' g') : DR κ ι H (l ++ l') (g ++ g') := by
  unfold DR at h h' ⊢
  induction h with
  | nil => exact h'
  | cons r _ ih => exact .cons r ih
theorem fl_put {b : AV} {y : Key} {k : NestedKey} {x : AV} {v : V} (hb : KR b y) (hk : b.key = some k) (hx : VR κ ι H x v) {gs : List (Key × V)} (h : DR κ ι H kvs gs) : DR κ ι H (dput kvs b k x) (putK gs y v) := by
  obtain ⟨k', e1, e2⟩ := hb.key
  have ek : k = k' := by rw [hk] at e1; exact Option.some.inj e1
  subst ek
  have eh : dhas kvs k = gs.any fun kv => decide (kv.1 = y) := by
    unfold dhas
    unfold DR at h
    induction h with
    | nil => rfl
    | cons r _ ih =>
      rw [List.any_cons, List.any_cons, ih]
      congr 1
      exact decide_eq_decide.mpr (e2 r.1)
  unfold dput putK
  rw [eh]
  split
  · rename_i z
    unfold DR at h ⊢
    clear eh z
    induction h with
    | nil => exact .nil
    | @cons p q _ _ r _ ih =>
      rw [List.map_cons, List.map_cons]
      refine .cons ?_ ih
      by_cases hh : p.1.key = some k
      · rw [if_pos hh, if_pos ((e2 r.1).mp hh)]; exact ⟨r.1, hx⟩
      · rw [if_neg hh, if_neg fun z => hh ((e2 r.1).mpr z)]; exact r
  · exact h.app (.cons ⟨hb, hx⟩ .nil)
theorem dput_ne {kvs : List (AV × AV)} {b c : AV} {k : NestedKey} : dput kvs b k c ≠ [] := by
  unfold dput
  split
  · rename_i h
    cases kvs with
    | nil => cases h
    | cons p r => simp
  · simp
/-- the same with tuples -/
def putN (ks : List (NestedKey × Addr × V)) (k : NestedKey) (b : Addr) (v : V) : List (NestedKey × Addr × V) :=
  if (ks.any fun p => decide (p.1 = k)) = true then ks.map (fun p => if p.1 = k then (p.1, p.2.1, v) else p) else ks ++ [(k, b, v)]
theorem putN_len (ks : List (NestedKey × Addr × V)) (k : NestedKey) (b : Addr) (v : V) : (putN ks k b v).length ≤ ks.length + 1 := by
  unfold putN
  split <;> simp
theorem tp_put {b : AV} {p0 : Addr} {k : NestedKey} {x : AV} {v : V} (hb : VR κ ι H b (.ref p0)) (hk : b.key = some k) (hd : k.depth ≤ 8) (hx : VR κ ι H x v) {ks : List (NestedKey × Addr × V)} (h : TR κ ι H kvs ks) : TR κ ι H (dput kvs b k x) (putN ks k p0 v) := by
  have e : ∀ {p : AV × AV} {q : NestedKey}, p.1.key = some q → (p.1.key = some k ↔ q = k) := fun {p q} e => by rw [e]; exact ⟨Option.some.inj, fun z => by rw [z]⟩
  have eh : dhas kvs k = ks.any fun p => decide (p.1 = k) := by
    unfold dhas
    unfold TR at h
    induction h with
    | nil => rfl
    | cons r _ ih =>
      rw [List.any_cons, List.any_cons, ih]
      congr 1
      exact decide_eq_decide.mpr (e r.1)
  unfold dput putN
  rw [eh]
  split
  · rename_i z
    unfold TR at h ⊢
    clear eh z
    induction h with
    | nil => exact .nil
    | @cons p q _ _ r _ ih =>
      rw [List.map_cons, List.map_cons]
      refine .cons ?_ ih
      by_cases hh : p.1.key = some k
      · rw [if_pos hh, if_pos ((e r.1).mp hh)]; exact ⟨r.1, r.2.1, r.2.2.1, hx⟩
      · rw [if_neg hh, if_neg fun z => hh ((e r.1).mpr z)]; exact r
  · rename_i z
    unfold TR at h ⊢
    clear eh z
    induction h with
    | nil => exact .cons ⟨hk, hb, hd, hx⟩ .nil
    | cons r _ ih => exact .cons r ih
theorem nr_put {k : NestedKey} {b : Addr} {v : V} {u : Value} (r : RelV v u) {ks : List (NestedKey × Addr × V)} {xs : List (NestedKey × Addr × Value)} (h : NR ks xs) : NR (putN ks k b v) (storedH xs k b u) := by
  have eh : (ks.any fun p => decide (p.1 = k)) = (atKey xs k).isSome := by
    induction h with
    | nil => rfl
    | @cons p q _ _ r _ ih =>
      rw [List.any_cons, ih, atKey_cons, r.1]
      by_cases hh : q.1 = k
      · rw [decide_eq_true hh, if_pos hh]; rfl
      · rw [decide_eq_false hh, if_neg hh]; rfl
  unfold putN storedH
  rw [eh]
  split
  · rename_i z
    clear eh z
    induction h with
    | nil => exact .nil
    | @cons p q _ _ r' _ ih =>
      rw [List.map_cons, List.map_cons]
      refine .cons ?_ ih
      unfold putAt
      rw [r'.1]
      by_cases hh : q.1 = k
      · rw [if_pos hh, if_pos hh]; exact ⟨rfl, r'.2.1, r⟩
      · rw [if_neg hh, if_neg hh]; exact r'
  · rename_i z
    clear eh z
    induction h with
    | nil => exact .cons ⟨rfl, rfl, r⟩ .nil
    | cons r' _ ih => exact .cons r' ih

/-! ### the two ways of asking a dict -/
theorem vr_tp {a : AV} {v : V} (t : isTp a = true) (h : VR κ ι H a v) : ∃ p, v = .ref p := by
  cases a with
  | tup xs => rw [vr_tup] at h; obtain ⟨p, _, e, _⟩ := h; exact ⟨p, e⟩
  | _ => cases t
theorem kr_v {a : AV} {y : Key} {v : V} {u : Value} (k : KR a y) (h : VR κ ι H a v) (r : RelV v u) : (mixKind X.prog X.w).is y u = true := by
  refine kV_is ?_
  cases k with
  | int i => rw [vr_int] at h; subst h; exact r
  | str i => rw [vr_str] at h; subst h; exact r
theorem dk2_cases {α : Type} {d a : AV} {M : AH} {f : Nat → List (AV × AV) → NestedKey → R α} {β : Type} {κ : Cfg} {rel : List Addr → Hp → α → β → Prop} {vs : Loc} {σ : L2.St} {Q : β → Hp → Prop} (o : Out κ W rel ι vs σ H Q (dk2 d a M f)) :
    ∃ i kvs k, d = .ref i ∧ M[i]? = some (.dct kvs) ∧ a.key = some k ∧ dOk a k kvs = true ∧ Out κ W rel ι vs σ H Q (f i kvs k) := by
  unfold dk2 at o
  split at o
  · rename_i i kvs k e1 e2
    split at o
    · rename_i hk
      unfold dctOf at e1
      split at e1
      · rename_i j
        split at e1
        · rename_i kvs' q
          cases e1
          exact ⟨_, _, _, rfl, q, e2, hk, o⟩
        · cases e1
      · cases e1
    · exact o.elim
  · exact o.elim
theorem dOk_cases {a : AV} {k : NestedKey} {kvs : List (AV × AV)} (h : dOk a k kvs = true) : (isFl a = true ∧ kvs.all (fun p => isFl p.1) = true) ∨ (isTp a = true ∧ kvs.all (fun p => isTp p.1) = true ∧ k.depth ≤ 8) := by
  unfold dOk at h
  simp only [Bool.or_eq_true, Bool.and_eq_true, decide_eq_true_eq] at h
  rcases h with h | h
  · exact .inl h
  · exact .inr ⟨h.1.1, h.1.2, h.2⟩
theorem room8 {A : Around} {P : Program} {w : World} (hu : A.units + 64 < cLine) : (nestedKind P w).room A.in1 := by show A.units + 1 + 8 < cLine; omega
theorem in_dct (neg : Bool) (hu : X.A.units + 64 < cLine) : OpR X (compareOp (if neg then .NotIn else .In)) (rd2 (kf X) W (dInA neg)) := by
  intro pins s σ0 H x y v u Q I rx ry ⟨ι, vs, M, σ, a, b, hr, ha, hb, o⟩
  obtain ⟨i, kvs, k, rfl, q, hk, ok, o⟩ := dk2_cases o
  rw [vr_ref] at hb
  obtain ⟨p, ei, rfl⟩ := hb
  cases ry
  have ho := hr.rep.at_ q ei
  rcases dOk_cases ok with ⟨f1, f2⟩ | ⟨f1, f2, f3⟩
  · obtain ⟨gs, ws, h1, h2, h3, h4, h5⟩ := flV I ho f2
    obtain ⟨y, hy⟩ := fl_kr f1
    have e : dhas kvs k = (valueAt ws y).isSome := by
      rw [dhas_find]
      exact (fl_find hy hk h3 h4).isSome
    cases neg with
    | false => exact wpAny_in_of (kr_v hy ha rx) h1 h5.mapOf ⟨.bl _, H, I.tok _, rfl, Out.fin hr o (by rw [vr_bl, e]; rfl)⟩
    | true => exact wpAny_notIn_of (kr_v hy ha rx) h1 h5.mapOf ⟨.bl _, H, I.tok _, rfl, Out.fin hr o (by rw [vr_bl, e]; rfl)⟩
  · obtain ⟨ks, xs, h1, h2, h3, h4, h5⟩ := tpV I ho f2
    obtain ⟨p2, rfl⟩ := vr_tp f1 ha
    have hx := rx
    cases rx
    have e : dhas kvs k = (atKey xs k).isSome := by
      rw [dhas_find]
      exact (tp_find h3 h4).isSome
    cases neg with
    | false => exact wpAny_in_heap (room8 hu) ⟨key_is I ha hx hk, f3⟩ h1 h5 ⟨.bl _, H, I.tok _, rfl, Out.fin hr o (by rw [vr_bl, e]; rfl)⟩
    | true => exact PyProof.Rows.wpAny_notIn_heap (room8 hu) ⟨key_is I ha hx hk, f3⟩ h1 h5 ⟨.bl _, H, I.tok _, rfl, Out.fin hr o (by rw [vr_bl, e]; rfl)⟩
end

/-! ### items, stores -/
section
variable [Tb] {X : Cx} {W : WX} {e o : Expr} {es : List Expr} {apos cpos : Pos} {c : CE} {r : CA} {name : Str}
theorem dct_typeIs {pins : List (Addr × Obj)} {σ0 : L2.St} {s : Shared} {H : Hp} {ι : List Addr} {a : Addr} {kvs : List (AV × AV)} (I : Inv X pins σ0 H s) (o : OR (kf X) ι H (.dct kvs) a) : s.TypeIs (.ref a) "dict" ∧ ∃ ob, s.heap.get? a = some ob ∧ ob.dict = none := by
  rcases o with ⟨gs, h1, h2⟩ | ⟨ks, h1, h2, hne⟩
  · obtain ⟨z, hd, vs, rel, o, es, ep, ho, hx, _⟩ := dk_rd I.hok (.inl h1)
    exact ⟨⟨o, ho, hx.1⟩, o, ho, hx.2.1⟩
  · obtain ⟨z1, z2, xs, ⟨o, es, ep, ho, hx, _⟩, z4⟩ := nd_at I h1 h2
    exact ⟨⟨o, ho, hx.1⟩, o, ho, hx.2.1⟩
theorem ix_dct (hu : X.A.units + 64 < cLine) : IxR X (rd2 (kf X) W dGetA) := by
  intro value slice pins s σ0 H x y v u Q I rx ry ⟨ι, vs, M, σ, a, b, hr, ha, hb, o⟩ hs
  obtain ⟨i, kvs, k, rfl, q, hk, ok, o⟩ := dk2_cases o
  rw [vr_ref] at ha
  obtain ⟨p, ei, rfl⟩ := ha
  cases rx
  have ho := hr.rep.at_ q ei
  obtain ⟨hT, _⟩ := dct_typeIs I ho
  cases e : dfind kvs k with
  | none => rw [e] at o; exact o.elim
  | some z =>
    rw [e] at o
    have o : Out (kf X) W (VR (kf X)) ι vs σ H Q (.ok z M) := o
    rcases dOk_cases ok with ⟨f1, f2⟩ | ⟨f1, f2, f3⟩
    · obtain ⟨gs, ws, h1, h2, h3, h4, h5⟩ := flV I ho f2
      obtain ⟨y', hy⟩ := fl_kr f1
      have f := fl_find hy hk h3 h4
      rw [e] at f
      cases f' : valueAt ws y' with
      | none => rw [f'] at f; cases f
      | some w' =>
        rw [f'] at f
        cases f with
        | some fr =>
          obtain ⟨z', g1, g2⟩ := fr
          exact PyProof.Rows.subscriptTail_builtinR (x := w') hT PySem.F.slot_dict_getitem.lookup (wpAny_getItem_of (Q := fun r s' => r = w' ∧ EP X pins σ0 Q r s') (kr_v hy hb ry) h5.mapOf f' ⟨rfl, z', H, I.tok _, g2, Out.fin hr o g1⟩) hs
    · obtain ⟨ks, xs, h1, h2, h3, h4, h5⟩ := tpV I ho f2
      obtain ⟨p2, rfl⟩ := vr_tp f1 hb
      have hx := ry
      cases ry
      have f := tp_find (k := k) h3 h4
      rw [e] at f
      cases f' : atKey xs k with
      | none => rw [f'] at f; cases f
      | some w' =>
        rw [f'] at f
        cases f with
        | some fr =>
          obtain ⟨z', g1, g2⟩ := fr
          exact PyProof.Rows.subscriptTail_builtinR (x := w'.2) hT PySem.F.slot_dict_getitem.lookup (wpAny_getItem_heap (Q := fun r s' => r = w'.2 ∧ EP X pins σ0 Q r s') (room8 hu) ⟨key_is I hb hx hk, f3⟩ h5 f' ⟨rfl, z', H, I.tok _, g2, Out.fin hr o g1⟩) hs
/-- a dict of ours is written -/
theorem Keep.dct {κ : Cfg} {ι : List Addr} {H : Hp} {a : Addr} {kvs : List (AV × AV)} {o' : HO} (o : OR κ ι H (.dct kvs) a) : Keep H (upd H a o') := by
  rcases o with ⟨gs, h1, h2⟩ | ⟨ks, h1, h2, hne⟩
  · exact Keep.mut h1 (fun _ z => by cases z) fun _ _ z => by cases z
  · exact Keep.mut h1 (fun _ z => by unfold NdO at z; cases z) fun _ _ z => by unfold NdO at z; cases z
theorem mut_dct {κ : Cfg} {ι : List Addr} {H : Hp} {a : Addr} {kvs : List (AV × AV)} (o : OR κ ι H (.dct kvs) a) : Mut (H a) := by
  rcases o with ⟨gs, h1, h2⟩ | ⟨ks, h1, h2, hne⟩
  · rw [h1]; exact True.intro
  · rw [h1]; unfold NdO; exact True.intro
theorem nd_new {P : Program} {w : World} {H : Hp} {h : Heap} {a : Addr} {ks : List (NestedKey × Addr × V)} {xs : List (NestedKey × Addr × Value)} (h1 : (a == sysModules) = false) (h2 : ks.length ≤ sizeLine) (n : NR ks xs) (d : h.DictOfH (nestedKind P w) a xs) : ObjOk P w H h a (NdO P w a ks) := by
  obtain ⟨o, es, ep, ho, hx, hd, he, _, hn⟩ := d
  exact ⟨⟨h1, h2, o, es, ep, xs, ho, hx, hd, he, n, hn⟩, ⟨o, ho⟩, fun h1' h2' ⟨a1, a2, o, es, ep, xs, a3, a4⟩ k => ⟨a1, a2, o, es, ep, xs, k _ a3, a4⟩⟩
/-- the store itself, for d[k] = v and setdefault -/
theorem put_go (hu : X.A.units + 64 < cLine) {pins : List (Addr × Obj)} {σ0 : L2.St} {s : Shared} {H : Hp} {ι : List Addr} {vs : Loc} {M : AH} {σ : L2.St} {i : Nat} {kvs : List (AV × AV)} {k : NestedKey} {b c : AV} {p : Addr} {y v : V} {u : Value}
    (I : Inv X pins σ0 H s) (hr : Rel (kf X) ι vs M σ H) (q : M[i]? = some (.dct kvs)) (ei : ι[i]? = some p) (hb : VR (kf X) ι H b y) (ry : RelV y u) (hc : VR (kf X) ι H c v) (ok : dOk b k kvs = true) (hk : b.key = some k) (hl : kvs.length < sizeLine) :
    (∃ gs ws y', FlV X ι H s.heap p kvs gs ws ∧ KR b y' ∧ (mixKind X.prog X.w).is y' u = true ∧
      ∀ (h' : Heap) (r : Value) (t' : Nat), RelV v r → h'.DictOf (mixKind X.prog X.w) p (stored ws y' r) → Heap.SameBut p s.heap h' → ∃ H', Inv X pins σ0 H' { s with heap := h', toks := t' } ∧ Keep H H' ∧ Rel (kf X) ι vs (M.set i (.dct (dput kvs b k c))) σ H') ∨
    ∃ ks xs p2, TpV X ι H s.heap p kvs ks xs ∧ y = .ref p2 ∧ u = .ref p2 ∧ (nestedKind X.prog X.w).is s.heap k p2 ∧
      ∀ (h' : Heap) (r : Value) (t' : Nat), RelV v r → h'.DictOfH (nestedKind X.prog X.w) p (storedH xs k p2 r) → Heap.SameBut p s.heap h' → ∃ H', Inv X pins σ0 H' { s with heap := h', toks := t' } ∧ Keep H H' ∧ Rel (kf X) ι vs (M.set i (.dct (dput kvs b k c))) σ H' := by
  have ho := hr.rep.at_ q ei
  have hm := mut_dct ho
  obtain ⟨uo, huo⟩ := ho.there
  rcases dOk_cases ok with ⟨f1, f2⟩ | ⟨f1, f2, f3⟩
  · obtain ⟨gs, ws, h1, h2, h3, h4, h5⟩ := flV I ho f2
    obtain ⟨y', hy⟩ := fl_kr f1
    refine .inl ⟨gs, ws, y', ⟨h1, h2, h3, h4, h5⟩, hy, kr_v hy hb ry, fun h' r t' rr d sb => ?_⟩
    have hk' : Keep H (upd H p (.dK (putK gs y' v))) := Keep.dct ho
    have hlen : (putK gs y' v).length ≤ sizeLine := by
      have := length_putK gs y' v
      have := Paired.length h3
      omega
    refine ⟨upd H p (.dK (putK gs y' v)), d_write I hm sb (let ⟨o, _, _, ho, _⟩ := d; ⟨o, ho⟩) (dk_new hlen h1 (h4.put y' rr) d), hk', ?_⟩
    exact hr.set ei huo hk' (.inl ⟨_, upd_same, fl_put hy hk (hc.mono (List.prefix_refl _) hk') (Paired.mapP h3 fun p q r => ⟨r.1, r.2.mono (List.prefix_refl _) hk'⟩)⟩) fun ps z => by rw [huo, z] at hm; exact hm
  · obtain ⟨ks, xs, h1, h2, h3, h4, h5⟩ := tpV I ho f2
    obtain ⟨p2, rfl⟩ := vr_tp f1 hb
    have hx := ry
    cases ry
    refine .inr ⟨ks, xs, p2, ⟨h1, h2, h3, h4, h5⟩, rfl, rfl, ⟨key_is I hb hx hk, f3⟩, fun h' r t' rr d sb => ?_⟩
    have hk' : Keep H (upd H p (NdO X.prog X.w p (putN ks k p2 v))) := Keep.dct ho
    have hlen : (putN ks k p2 v).length ≤ sizeLine := by
      have := putN_len ks k p2 v
      have := Paired.length h3
      omega
    refine ⟨upd H p (NdO X.prog X.w p (putN ks k p2 v)), d_write I hm sb (let ⟨o, _, _, ho, _⟩ := d; ⟨o, ho⟩) (nd_new h1 hlen (nr_put rr h4) d), hk', ?_⟩
    exact hr.set ei huo hk' (.inr ⟨_, upd_same, tp_put (hb.mono (List.prefix_refl _) hk') hk f3 (hc.mono (List.prefix_refl _) hk') (Paired.mapP h3 fun p q r => ⟨r.1, r.2.1.mono (List.prefix_refl _) hk', r.2.2.1, r.2.2.2.mono (List.prefix_refl _) hk'⟩), dput_ne⟩) fun ps z => by rw [huo, z] at hm; exact hm
theorem st_dct (hu : X.A.units + 64 < cLine) : PSet X (rdSet (kf X) W dPutA) := by
  intro pins s σ0 H o i v ov iv u Q I ro ri rv ⟨ι, vs, M, σ, a, b, c, hr, ha, hb, hc, oo⟩
  obtain ⟨j, kvs, k, rfl, q, hk, ok, oo⟩ := dk2_cases oo
  rw [vr_ref] at ha
  obtain ⟨p, ei, rfl⟩ := ha
  cases ro
  split at oo
  · rename_i hl
    rcases put_go hu I hr q ei hb ri hc ok hk hl with ⟨gs, ws, y', fv, hy, hm, go⟩ | ⟨ks, xs, p2, tv, rfl, rfl, hm, go⟩
    · obtain ⟨h1, h2, h3, h4, h5⟩ := fv
      refine wpAny_setItem_pairs (hsz := by rw [← h4.length]; exact h2) hm h5 fun h' d sb => ?_
      obtain ⟨H', I', k', r'⟩ := go h' u _ rv d sb
      exact ⟨H', I', oo ι H' () (List.prefix_refl _) k' r' trivial⟩
    · obtain ⟨h1, h2, h3, h4, h5⟩ := tv
      refine wpAny_setItem_heap (hsz := by rw [← Paired.length h4]; exact h2) (room8 hu) hm h5 fun h' d sb => ?_
      obtain ⟨H', I', k', r'⟩ := go h' u _ rv d sb
      exact ⟨H', I', oo ι H' () (List.prefix_refl _) k' r' trivial⟩
  · exact oo.elim
/-- {} -/
theorem ev_newD {pos : Pos} : EvE X W (.Dict [] [] pos) (fun _ M => newD M) := PE.imp pe_dnewK fun σ H Q ⟨ι, vs, M, hr, o⟩ p hp => by
  have hk := Keep.new (o := .dK []) hp
  refine o (ι ++ [p]) _ _ (List.prefix_append _ _) hk (hr.snoc hp (.inl ⟨[], upd_same, .nil⟩)) ?_
  rw [vr_ref]
  refine ⟨p, ?_, rfl⟩
  rw [← hr.rep.len]
  simp

/-! ### all together -/
def isD (a : AV) (M : AH) : Bool := (dctOf a M).isSome
def opIn (neg : Bool) (a b : AV) (M : AH) : R AV := if isD b M = true then dInA neg a b M else opInS neg a b M
def opIx (a b : AV) (M : AH) : R AV := if isD a M = true then dGetA a b M else opIxS a b M
def setA (o i v : AV) (M : AH) : R Unit := if isD o M = true then dPutA o i v M else setL o i v M
theorem ok_In (hu : X.A.units + 65 < cLine) : OpR X (compareOp .In) (rd2 (kf X) W (opIn false)) := by
  intro pins s σ0 H x y v u Q I rx ry ⟨ι, vs, M, σ, a, b, hr, ha, hb, o⟩
  unfold opIn at o
  split at o
  · exact in_dct false (by omega) pins s σ0 H x y v u Q I rx ry ⟨ι, vs, M, σ, a, b, hr, ha, hb, o⟩
  · exact ok_in hu pins s σ0 H x y v u Q I rx ry ⟨ι, vs, M, σ, a, b, hr, ha, hb, o⟩
theorem ok_NotIn (hu : X.A.units + 65 < cLine) : OpR X (compareOp .NotIn) (rd2 (kf X) W (opIn true)) := by
  intro pins s σ0 H x y v u Q I rx ry ⟨ι, vs, M, σ, a, b, hr, ha, hb, o⟩
  unfold opIn at o
  split at o
  · exact in_dct true (by omega) pins s σ0 H x y v u Q I rx ry ⟨ι, vs, M, σ, a, b, hr, ha, hb, o⟩
  · exact ok_notin hu pins s σ0 H x y v u Q I rx ry ⟨ι, vs, M, σ, a, b, hr, ha, hb, o⟩
theorem ix_all (hu : X.A.units + 64 < cLine) : IxR X (rd2 (kf X) W opIx) := by
  intro value slice pins s σ0 H x y v u Q I rx ry ⟨ι, vs, M, σ, a, b, hr, ha, hb, o⟩ hs
  unfold opIx at o
  split at o
  · exact ix_dct hu value slice pins s σ0 H x y v u Q I rx ry ⟨ι, vs, M, σ, a, b, hr, ha, hb, o⟩ hs
  · exact ix_seqA value slice pins s σ0 H x y v u Q I rx ry ⟨ι, vs, M, σ, a, b, hr, ha, hb, o⟩ hs
theorem st_all (hu : X.A.units + 64 < cLine) : PSet X (rdSet (kf X) W setA) := by
  intro pins s σ0 H o i v ov iv u Q I ro ri rv ⟨ι, vs, M, σ, a, b, c, hr, ha, hb, hc, oo⟩
  unfold setA at oo
  split at oo
  · exact st_dct hu pins s σ0 H o i v ov iv u Q I ro ri rv ⟨ι, vs, M, σ, a, b, c, hr, ha, hb, hc, oo⟩
  · exact st_list pins s σ0 H o i v ov iv u Q I ro ri rv ⟨ι, vs, M, σ, a, b, c, hr, ha, hb, hc, oo⟩

/-! ### methods of built-in types, by the receiver's kind -/
def kindA (a : AV) (M : AH) : String := match a with
  | .str _ => "str"
  | .ref i => match M[i]? with
    | some (.lst _) => "list"
    | some (.frz _) => "list"
    | some (.dct _) => "dict"
    | _ => ""
  | _ => ""
abbrev MFun := String → Option (AV → List AV → AH → R AV)
def methK (f : MFun) (c : CE) (r : CA) : CE := fun vs M => (c vs M).bind fun a M1 => match f (kindA a M1) with
  | some op => (r vs M1).bind fun as M2 => op a as M2
  | none => .bad
def MFact (X : Cx) (W : WX) (name : Str) (f : MFun) : Prop := ∀ T op, f T = some op → (T = "str" ∨ T = "list" ∨ T = "dict") ∧ ∃ id, PlainAttrs T ∧ Slot T name id ∧ typeOf (.builtin id) = pure (.type "method_descriptor") ∧ MtR X id (rdM (kf X) W op)
theorem kind_is {pins : List (Addr × Obj)} {σ0 : L2.St} {s : Shared} {H : Hp} {ι : List Addr} {vs : Loc} {M : AH} {σ : L2.St} {a : AV} {x : V} {v : Value} {T : String} (I : Inv X pins σ0 H s) (hr : Rel (kf X) ι vs M σ H) (ha : VR (kf X) ι H a x) (r : RelV x v) (hT : kindA a M = T) (h3 : T = "str" ∨ T = "list" ∨ T = "dict") :
    s.TypeIs v T ∧ ∀ a, v = .ref a → ∃ ob, s.heap.get? a = some ob ∧ ob.dict = none := by
  subst hT
  unfold kindA at h3 ⊢
  split
  · rw [vr_str] at ha; subst ha
    obtain ⟨t, rfl⟩ := r
    exact ⟨typeIs_str s _ t, fun _ e => nomatch e⟩
  · rename_i i
    rw [vr_ref] at ha
    obtain ⟨p, ei, rfl⟩ := ha
    cases r
    split
    · rename_i xs q
      obtain ⟨ws, h1, h2⟩ := hr.rep.at_ q ei
      exact tyV_is (x := .ref p) I rfl (.inl ⟨rfl, ws, SqL.of h1⟩)
    · rename_i xs q
      obtain ⟨ob, ws, h1, h2⟩ := hr.rep.at_ q ei
      exact tyV_is (x := .ref p) I rfl (.inl ⟨rfl, ws, .inl (.inr ⟨ob, h1⟩)⟩)
    · rename_i kvs q
      obtain ⟨h1, ob, h2, h3⟩ := dct_typeIs I (hr.rep.at_ q ei)
      exact ⟨h1, fun a e => by cases e; exact ⟨ob, h2, h3⟩⟩
    · rename_i z1 z2 z3
      split at h3 <;> simp_all
  · rename_i z1 z2
    exfalso
    split at h3 <;> simp_all
theorem ev_meth0 {f : MFun} (hf : MFact X W name f) (ho : EvE X W o c) (hbase : attributeBase o name X.env (eval o X.env) = eval o X.env := by rfl) (hline : (apos.endLine == cpos.line) = true := by rfl) : EvE X W (.Call (.Attribute o name apos) [] [] cpos) (methK f c nilA) := by
  refine ⟨fun pins s σ H Q I ⟨ι, vs, M, hr, oo⟩ => ?_⟩
  refine wpAny_Call_method0_late hbase hline (thn (ho.run pins s σ H _ I (Out.run (Q1 := fun x H1 => ∃ T op, f T = some op ∧ rdM (kf X) W op x [] H1 Q ∧ ∃ ι vs M a, Rel (kf X) ι vs M σ H1 ∧ VR (kf X) ι H1 a x ∧ kindA a M = T) hr oo fun ι1 a M1 v H1 h1 h2 h3 h4 h5 => ?_)) fun v s1 ⟨x, H1, I1, r1, T, op, hT, q1, ι1, vs1, M1, a1, g1, g2, g3⟩ => ?_)
  · split at h5
    · rename_i op e
      exact ⟨_, op, e, ⟨ι1, vs, M1, σ, a, [], h3, h4, .nil, h5⟩, ι1, vs, M1, a, h3, h4, rfl⟩
    · exact h5.elim
  · obtain ⟨k3, id, pa, slot, hty, hm⟩ := hf T op hT
    obtain ⟨h1, h2⟩ := kind_is I1 g1 g2 r1 g3 k3
    exact ⟨T, id, pa, slot, hty, h1, h2, Calls.callWith_builtin rfl (PySem.evalArgs_none (hm pins s1 σ H1 x [] v [] Q I1 r1 .nil q1))⟩
theorem ev_meth {f : MFun} (hf : MFact X W name f) (ho : EvE X W o c) (ha : EvA X W (e :: es) r)
    (hbase : attributeBase o name X.env (eval o X.env) = eval o X.env := by rfl)
    (hfew : ((backTo cpos (starEach (e :: es) X.env)).all (fun x => !x.1) && (backToKw cpos (keywordEach [] X.env)).all (fun x => x.1.isSome)
      && decide ((e :: es).length + ([] : List Keyword).length + (if ([] : List Keyword).isEmpty then 0 else 1) < 30)) = true := by rfl)
    (hline : (apos.endLine == cpos.line) = true := by rfl) (hs : starEach (e :: es) X.env = (false, eval e X.env) :: starEach es X.env := by rfl) (hplain : (backTo cpos (starEach es X.env)).any (·.1) = false := by rfl) :
    EvE X W (.Call (.Attribute o name apos) (e :: es) [] cpos) (methK f c r) := by
  refine ⟨fun pins s σ H Q I ⟨ι, vs, M, hr, oo⟩ => ?_⟩
  refine wpAny_Call_method_late hbase hfew hline rfl (thn (ho.run pins s σ H _ I (Out.run (Q1 := fun x H1 => ∃ T op, f T = some op ∧ (∃ ι vs M a, Rel (kf X) ι vs M σ H1 ∧ VR (kf X) ι H1 a x ∧ kindA a M = T) ∧ rdA (kf X) W r σ H1 fun xs H2 => rdM (kf X) W op x xs H2 Q) hr oo fun ι1 a M1 v H1 h1 h2 h3 h4 h5 => ?_)) fun v s1 ⟨x, H1, I1, r1, T, op, hT, ⟨ι1, vs1, M1, a1, g1, g2, g3⟩, q1⟩ => ?_)
  · split at h5
    · rename_i op e'
      exact ⟨_, op, e', ⟨ι1, vs, M1, a, h3, h4, rfl⟩, Out.run h3 h5 fun ι2 as M2 ws H2 k1 k2 k3 k4 k5 => ⟨ι2, vs, M2, σ, a, as, k3, h4.mono k1 k2, k4, k5⟩⟩
    · exact h5.elim
  · obtain ⟨k3, id, pa, slot, hty, hm⟩ := hf T op hT
    obtain ⟨h1, h2⟩ := kind_is I1 g1 g2 r1 g3 k3
    refine ⟨T, id, pa, slot, hty, h1, h2, ?_⟩
    have hA := ha.run cpos pins s1 σ H1 _ I1 q1
    rw [hs] at hA ⊢
    refine Calls.callWith_builtin (by show (false || (backTo cpos (starEach es X.env)).any (·.1)) = false; rw [hplain] <;> rfl) (Calls.evalArgs_plain ?_)
    exact thn hA fun us s2 ⟨vs, H2, I2, r2, q2⟩ => hm pins s2 σ H2 x vs v us Q I2 r1 r2 q2
/-! methods of dicts -/
theorem OptR.getD {κ : Cfg} {ι : List Addr} {H : Hp} {a : Option AV} {b : Option Value} {d : AV} {d' : Value} (h : OptR (VRV κ ι H) a b) (hd : VRV κ ι H d d') : VRV κ ι H (a.getD d) (b.getD d') := by
  cases h with
  | none => exact hd
  | some r => exact r
theorem OptR.snd {κ : Cfg} {ι : List Addr} {H : Hp} {a : Option AV} {b : Option (Addr × Value)} (h : OptR (fun x (p : Addr × Value) => VRV κ ι H x p.2) a b) : OptR (VRV κ ι H) a (b.map (·.2)) := by
  cases h with
  | none => exact .none
  | some r => exact .some r
theorem mt_dget (hu : X.A.units + 64 < cLine) : MtR X "dict.get" (rdM (kf X) W mGet) := by
  intro pins s σ0 H x xs v us Q I rx rv ⟨ι, vs, M, σ, a, as, hr, ha, has, o⟩
  unfold mGet at o
  split at o
  · rename_i b
    obtain ⟨i, kvs, k, rfl, q, hk, ok, o⟩ := dk2_cases o
    obtain ⟨w, ws0, rfl, g1, g2⟩ := has.cons_inv
    obtain rfl := g2.nil_inv
    obtain ⟨u, rfl, ru⟩ := vals1 rv
    rw [vr_ref] at ha
    obtain ⟨p, ei, rfl⟩ := ha
    cases rx
    have ho := hr.rep.at_ q ei
    have hn : VRV (kf X) ι H .non .none := ⟨.non, by rw [vr_non], rfl⟩
    rcases dOk_cases ok with ⟨f1, f2⟩ | ⟨f1, f2, f3⟩
    · obtain ⟨gs, ws, h1, h2, h3, h4, h5⟩ := flV I ho f2
      obtain ⟨y', hy⟩ := fl_kr f1
      obtain ⟨z', e1, e2⟩ := (fl_find hy hk h3 h4).getD hn
      exact call_meetsIn F.slot_dict_get h5.typeIs F.entry_dict_get (F.args_dict_get_2 _ _) (meets_dict_get (mixKind X.prog X.w) (d := p) (kr_v hy g1 ru) h1) ⟨_, h5.mapOf, z', H, I.tok _, e2, Out.fin hr o e1⟩
    · obtain ⟨ks, xs, h1, h2, h3, h4, h5⟩ := tpV I ho f2
      obtain ⟨p2, rfl⟩ := vr_tp f1 g1
      have hx := ru
      cases ru
      obtain ⟨z', e1, e2⟩ := (tp_find (k := k) h3 h4).snd.getD hn
      refine get_keyed (knd := nestedKind X.prog X.w) (room8 hu) ⟨key_is I g1 hx hk, f3⟩ h1 ⟨xs, h5, rfl⟩ ?_
      rw [valueAt_pairsH]
      exact ⟨z', H, I.tok _, e2, Out.fin hr o e1⟩
  · rename_i b c
    obtain ⟨i, kvs, k, rfl, q, hk, ok, o⟩ := dk2_cases o
    obtain ⟨w, ws0, rfl, g1, g2⟩ := has.cons_inv
    obtain ⟨w2, ws1, rfl, g3, g4⟩ := g2.cons_inv
    obtain rfl := g4.nil_inv
    obtain ⟨u, u2, rfl, ru, ru2⟩ := vals2 rv
    rw [vr_ref] at ha
    obtain ⟨p, ei, rfl⟩ := ha
    cases rx
    have ho := hr.rep.at_ q ei
    have hn : VRV (kf X) ι H c u2 := ⟨w2, g3, ru2⟩
    rcases dOk_cases ok with ⟨f1, f2⟩ | ⟨f1, f2, f3⟩
    · obtain ⟨gs, ws, h1, h2, h3, h4, h5⟩ := flV I ho f2
      obtain ⟨y', hy⟩ := fl_kr f1
      obtain ⟨z', e1, e2⟩ := (fl_find hy hk h3 h4).getD hn
      exact call_meetsIn F.slot_dict_get h5.typeIs F.entry_dict_get (F.args_dict_get_3 _ _ _) (meets_dict_get_default (mixKind X.prog X.w) (d := p) (kr_v hy g1 ru) h1 u2) ⟨_, h5.mapOf, z', H, I.tok _, e2, Out.fin hr o e1⟩
    · obtain ⟨ks, xs, h1, h2, h3, h4, h5⟩ := tpV I ho f2
      obtain ⟨p2, rfl⟩ := vr_tp f1 g1
      have hx := ru
      cases ru
      obtain ⟨z', e1, e2⟩ := (tp_find (k := k) h3 h4).snd.getD hn
      refine getOr_keyed (knd := nestedKind X.prog X.w) (room8 hu) ⟨key_is I g1 hx hk, f3⟩ h1 ⟨xs, h5, rfl⟩ ?_
      rw [valueAt_pairsH]
      exact ⟨z', H, I.tok _, e2, Out.fin hr o e1⟩
  · exact o.elim
end
end AM
end

section
set_option Elab.async false
set_option linter.all false
set_option autoImplicit false
set_option maxRecDepth 100000
set_option maxHeartbeats 4000000
/-! AM 6: statements. -/
namespace AM
open PySem PySem.Spec L2

/-! ### equality of values, decided -/
mutual
def AV.beq : AV → AV → Bool
  | .non, b => match b with | .non => true | _ => false
  | .bl a, b => match b with | .bl c => a == c | _ => false
  | .int a, b => match b with | .int c => decide (a = c) | _ => false
  | .str a, b => match b with | .str c => decide (a = c) | _ => false
  | .tup a, b => match b with | .tup c => AV.beqs a c | _ => false
  | .ref a, b => match b with | .ref c => decide (a = c) | _ => false
  | .glo a, b => match b with | .glo c => decide (a = c) | _ => false
  | .ty a, b => match b with | .ty c => decide (a = c) | _ => false
def AV.beqs : List AV → List AV → Bool
  | [], l => match l with | [] => true | _ :: _ => false
  | x :: xs, l => match l with | [] => false | y :: ys => AV.beq x y && AV.beqs xs ys
end
mutual
theorem AV.beq_eq : ∀ {a b : AV}, AV.beq a b = true → a = b
  | .non, b, h => by cases b <;> simp_all [AV.beq]
  | .bl a, b, h => by cases b <;> simp_all [AV.beq]
  | .int a, b, h => by cases b <;> simp_all [AV.beq]
  | .str a, b, h => by cases b <;> simp_all [AV.beq]
  | .tup a, b, h => by
    cases b with
    | tup c => rw [AV.beq] at h; rw [AV.beqs_eq h]
    | _ => simp_all [AV.beq]
  | .ref a, b, h => by cases b <;> simp_all [AV.beq]
  | .glo a, b, h => by cases b <;> simp_all [AV.beq]
  | .ty a, b, h => by cases b <;> simp_all [AV.beq]
theorem AV.beqs_eq : ∀ {a b : List AV}, AV.beqs a b = true → a = b
  | [], b, h => by cases b <;> simp_all [AV.beqs]
  | x :: xs, b, h => by
    cases b with
    | nil => simp_all [AV.beqs]
    | cons y ys =>
      rw [AV.beqs, Bool.and_eq_true] at h
      rw [AV.beq_eq h.1, AV.beqs_eq h.2]
end
mutual
theorem AV.beq_self : ∀ a : AV, AV.beq a a = true
  | .non => rfl
  | .bl a => by simp [AV.beq]
  | .int a => by simp [AV.beq]
  | .str a => by simp [AV.beq]
  | .tup a => by rw [AV.beq]; exact AV.beqs_self a
  | .ref a => by simp [AV.beq]
  | .glo a => by simp [AV.beq]
  | .ty a => by simp [AV.beq]
theorem AV.beqs_self : ∀ a : List AV, AV.beqs a a = true
  | [] => rfl
  | x :: xs => by rw [AV.beqs, AV.beq_self x, AV.beqs_self xs]; rfl
end
instance : DecidableEq AV := fun a b => if h : AV.beq a b = true then .isTrue (AV.beq_eq h) else .isFalse fun e => h (e ▸ AV.beq_self a)

/-! ### what is walked -/
/-- the items; the lists that have to stay as they are -/
structure IT where
  items : List AV
  guard : List (Nat × List AV)
def isLst (M : AH) (p : Nat × List AV) : Bool := match M[p.1]? with
  | some (.lst xs) => decide (xs = p.2)
  | some (.frz xs) => decide (xs = p.2)
  | _ => false
def IT.ok (it : IT) (M : AH) : Bool := it.guard.all (isLst M)
abbrev CI := Loc → AH → R IT
abbrev CG := AV → Loc → AH → RS
def thenS {α : Type} (r : R α) (vs : Loc) (k : α → AH → RS) : RS := match r with
  | .ok a M => k a M
  | .exc c fs M => .exc c fs vs M
  | .bad => .bad
@[simp] theorem thenS_ok {α : Type} (a : α) (M : AH) (vs : Loc) (k : α → AH → RS) : thenS (.ok a M) vs k = k a M := rfl
def onlyG (r : RS) : RS := match r with
  | .nx vs M => .nx vs M
  | .exc c fs vs M => .exc c fs vs M
  | _ => .bad
def turnC (g : CG) (b : CS) (x : AV) (vs : Loc) (M : AH) : RS := match g x vs M with
  | .nx vs1 M1 => b vs1 M1
  | .exc c fs vs1 M1 => .exc c fs vs1 M1
  | _ => .bad
def loopC (it : IT) (g : CG) (b : CS) : List AV → CS
  | [], vs, M => if it.ok M = true then .nx vs M else .bad
  | x :: xs, vs, M => if it.ok M = true then match turnC g b x vs M with
      | .nx vs1 M1 => loopC it g b xs vs1 M1
      | .ct vs1 M1 => loopC it g b xs vs1 M1
      | .bk vs1 M1 => .nx vs1 M1
      | r => r
    else .bad
def forC (ci : CI) (g : CG) (b : CS) : CS := fun vs M => thenS (ci vs M) vs fun it M1 => loopC it g b it.items vs M1
def whileN (t : CT) (b : CS) : Nat → CS
  | 0, _, _ => .bad
  | n + 1, vs, M => thenS (t vs M) vs fun k M1 => if k = true then match b vs M1 with
      | .nx vs1 M2 => whileN t b n vs1 M2
      | .ct vs1 M2 => whileN t b n vs1 M2
      | .bk vs1 M2 => .nx vs1 M2
      | r => r
    else .nx vs M1
def wfuel : Nat := 1000000000
def whileC (t : CT) (b : CS) : CS := whileN t b wfuel
def skipC : CS := fun vs M => .nx vs M
def seqC (a b : CS) : CS := fun vs M => match a vs M with
  | .nx vs1 M1 => b vs1 M1
  | r => r
def dropC (c : CE) : CS := fun vs M => thenS (c vs M) vs fun _ M1 => .nx vs M1
def retC (c : CE) : CS := fun vs M => thenS (c vs M) vs fun a M1 => .rt a M1
def retN : CS := fun _ M => .rt .non M
def ifS (t : CT) (a b : CS) : CS := fun vs M => thenS (t vs M) vs fun k M1 => if k = true then a vs M1 else b vs M1
def contC : CS := fun vs M => .ct vs M
def breakC : CS := fun vs M => .bk vs M
def asgC (c : CE) (g : CG) : CS := fun vs M => thenS (c vs M) vs fun a M1 => onlyG (g a vs M1)
/-! targets -/
def nameG (i : Nat) : CG := fun a vs M => .nx (vs.set i (some (.val a))) M
abbrev CGs := List AV → Loc → AH → RS
def nilG : CGs := fun xs vs M => match xs with
  | [] => .nx vs M
  | _ :: _ => .bad
def consG (g : CG) (r : CGs) : CGs := fun xs vs M => match xs with
  | x :: xs => match g x vs M with
    | .nx vs1 M1 => r xs vs1 M1
    | .exc k fs vs1 M1 => .exc k fs vs1 M1
    | _ => .bad
  | [] => .bad
def tupG (n : Nat) (r : CGs) : CG := fun a vs M => match a with
  | .tup xs => if xs.length = n then r xs vs M else .bad
  | _ => .bad
def subG (co ci : CE) : CG := fun a vs M => thenS ((co vs M).bind fun o M1 => (ci vs M1).bind fun i M2 => setA o i a M2) vs fun _ M1 => .nx vs M1
/-- a, b = x, y -/
def parC (i j : Nat) (r : CA) : CS := fun vs M => thenS (r vs M) vs fun as M1 => match as with
  | [a, b] => .nx ((vs.set i (some (.val a))).set j (some (.val b))) M1
  | _ => .bad

/-! ### readings -/
section
variable (κ : Cfg) (W : WX)
def OutS (ι : List Addr) (H : Hp) (D : Ends) : RS → Prop
  | .nx vs M => ∀ ι' H' σ', ι <+: ι' → Keep H H' → Rel κ ι' vs M σ' H' → D.nx σ' H'
  | .bk vs M => ∀ ι' H' σ', ι <+: ι' → Keep H H' → Rel κ ι' vs M σ' H' → D.bk σ' H'
  | .ct vs M => ∀ ι' H' σ', ι <+: ι' → Keep H H' → Rel κ ι' vs M σ' H' → D.ct σ' H'
  | .rt a M => ∀ ι' H' v, ι <+: ι' → Keep H H' → Rep κ ι' M H' → VR κ ι' H' a v → D.rt v H'
  | .exc c fs vs M => ∀ ι' H' σ' C d, ι <+: ι' → Keep H H' → Rel κ ι' vs M σ' H' → ExR κ ι' H' c fs C d → W (.ref C) d σ' H'
  | .bad => False
def rdS (c : CS) : TS := fun D σ H => ∃ ι vs M, Rel κ ι vs M σ H ∧ OutS κ W ι H D (c vs M)
/-- an iterator that yields these items -/
def ItR (J : It) (ι0 : List Addr) (H0 : Hp) (it : IT) : Prop := ∀ (i : Nat) (ι : List Addr) (M : AH) (H : Hp), ι0 <+: ι → Keep H0 H → Rep κ ι M H → it.ok M = true →
  (∀ x, it.items[i]? = some x → J.go i H ∧ ∀ v H', J.yld i H v H' → Keep H H' ∧ (∀ a u, H a = some u → H' a = H a) ∧ VR κ ι H' x v) ∧ (i = it.items.length → J.stop i H)
def relI : List Addr → Hp → IT → It → Prop := fun ι H it J => ItR κ J ι H it
def rdI (c : CI) : TI := rd κ W (relI κ) c
def rdG (g : CG) : TG := fun v σ H Q => ∃ ι vs M a, Rel κ ι vs M σ H ∧ VR κ ι H a v ∧ OutS κ W ι H { nx := Q, rt := fun _ _ => False } (g a vs M)
def rdGs (g : CGs) : TGs := fun xs σ H Q => ∃ ι vs M as, Rel κ ι vs M σ H ∧ VRs κ ι H as xs ∧ OutS κ W ι H { nx := Q, rt := fun _ _ => False } (g as vs M)
end
section
variable {κ : Cfg} {W : WX}
theorem OutS.imp {ι : List Addr} {H : Hp} {D D' : Ends} {r : RS} (h : OutS κ W ι H D r) (k1 : ∀ σ H, D.nx σ H → D'.nx σ H) (k2 : ∀ v H, D.rt v H → D'.rt v H) (k3 : ∀ σ H, D.bk σ H → D'.bk σ H) (k4 : ∀ σ H, D.ct σ H → D'.ct σ H) : OutS κ W ι H D' r := by
  cases r with
  | nx vs M => exact fun a b c d e f => k1 _ _ (h a b c d e f)
  | bk vs M => exact fun a b c d e f => k3 _ _ (h a b c d e f)
  | ct vs M => exact fun a b c d e f => k4 _ _ (h a b c d e f)
  | rt v M => exact fun a b c d e f g => k2 _ _ (h a b c d e f g)
  | exc c fs vs M => exact h
  | bad => exact h
theorem OutS.base {ι ι' : List Addr} {H H' : Hp} {D : Ends} {r : RS} (h : OutS κ W ι H D r) (p : ι <+: ι') (k : Keep H H') : OutS κ W ι' H' D r := by
  cases r with
  | nx vs M => exact fun a b c d e f => h a b c (p.trans d) (k.trans e) f
  | bk vs M => exact fun a b c d e f => h a b c (p.trans d) (k.trans e) f
  | ct vs M => exact fun a b c d e f => h a b c (p.trans d) (k.trans e) f
  | rt v M => exact fun a b c d e f => h a b c (p.trans d) (k.trans e) f
  | exc c fs vs M => exact fun a b c' d e g f => h a b c' d e (p.trans g) (k.trans f)
  | bad => exact h
theorem OutS.fin {ι : List Addr} {H : Hp} {D : Ends} {vs : Loc} {M : AH} {σ : L2.St} (hr : Rel κ ι vs M σ H) (o : OutS κ W ι H D (.nx vs M)) : D.nx σ H := o ι H σ (List.prefix_refl _) (Keep.refl _) hr
/-- an expression, then a statement's end -/
theorem OutS.run {α β : Type} {rel : List Addr → Hp → α → β → Prop} {ι : List Addr} {vs : Loc} {M : AH} {σ : L2.St} {H : Hp} {c : Loc → AH → R α} {k : α → AH → RS} {D : Ends} {Q1 : β → Hp → Prop} (hr : Rel κ ι vs M σ H)
    (o : OutS κ W ι H D (thenS (c vs M) vs k))
    (go : ∀ ι1 a M1 b H1, ι <+: ι1 → Keep H H1 → Rel κ ι1 vs M1 σ H1 → rel ι1 H1 a b → OutS κ W ι1 H1 D (k a M1) → Q1 b H1) : rd κ W rel c σ H Q1 := by
  refine ⟨ι, vs, M, hr, ?_⟩
  cases e : c vs M with
  | ok a M1 =>
    rw [e] at o
    exact fun ι' H' b h1 h2 h3 h4 => go ι' a M1 b H' h1 h2 h3 h4 (o.base h1 h2)
  | exc k fs M1 =>
    rw [e] at o
    exact fun ι' H' C d h1 h2 h3 h4 => o ι' H' σ C d h1 h2 h3 h4
  | bad => rw [e] at o; exact o
end
section
variable [Tb] {X : Cx} {W : WX} {e tg iter : Expr} {st : Stmt} {body rest : List Stmt} {pos p : Pos} {c ca cb : CE} {t : CT} {a b : CS} {g : CG} {gs : CGs} {x : Str}
abbrev EvS (X : Cx) (W : WX) (st : Stmt) (c : CS) : Prop := PS X st (rdS (kf X) W c)
abbrev EvB (X : Cx) (W : WX) (st : List Stmt) (c : CS) : Prop := PSs X st (rdS (kf X) W c)
abbrev EvG (X : Cx) (W : WX) (tg : Expr) (g : CG) : Prop := PG X tg (rdG (kf X) W g)
abbrev EvGs (X : Cx) (W : WX) (tg : List Expr) (g : CGs) : Prop := PGs X tg (rdGs (kf X) W g)
abbrev EvI (X : Cx) (W : WX) (tg iter : Expr) (c : CI) : Prop := PI X tg iter (rdI (kf X) W c)
theorem eb_nil : EvB X W [] skipC := PSs.imp pss_nil fun D σ H ⟨ι, vs, M, hr, o⟩ => OutS.fin hr o
theorem eb_one (h : EvS X W st a) : EvB X W [st] a := PSs.imp (pss_one h) fun D σ H q => q
theorem eb_cons (h : EvS X W st a) (h2 : EvB X W rest b) : EvB X W (st :: rest) (seqC a b) := PSs.imp (pss_cons h h2) fun D σ H ⟨ι, vs, M, hr, o⟩ => by
  refine ⟨ι, vs, M, hr, ?_⟩
  unfold seqC at o
  cases e : a vs M with
  | nx vs1 M1 =>
    rw [e] at o
    exact fun ι' H' σ' h1 h2 h3 => ⟨ι', vs1, M1, h3, o.base h1 h2⟩
  | bk vs1 M1 => rw [e] at o; exact o
  | ct vs1 M1 => rw [e] at o; exact o
  | rt v M1 => rw [e] at o; exact o
  | exc k fs vs1 M1 => rw [e] at o; exact o
  | bad => rw [e] at o; exact o
theorem es_pass : EvS X W (.Pass pos) skipC := PS.imp ps_pass fun D σ H ⟨ι, vs, M, hr, o⟩ => OutS.fin hr o
theorem es_cont : EvS X W (.Continue pos) contC := PS.imp ps_continue fun D σ H ⟨ι, vs, M, hr, o⟩ => o ι H σ (List.prefix_refl _) (Keep.refl _) hr
theorem es_break : EvS X W (.Break pos) breakC := PS.imp ps_break fun D σ H ⟨ι, vs, M, hr, o⟩ => o ι H σ (List.prefix_refl _) (Keep.refl _) hr
theorem es_expr (h : EvE X W e c) (hs : swapsWith e none pos.line X.env = pure false := by rfl) : EvS X W (.Expr e pos) (dropC c) := PS.imp (ps_expr h hs) fun D σ H ⟨ι, vs, M, hr, o⟩ =>
  OutS.run (k := fun _ M1 => .nx vs M1) hr o fun ι1 a M1 b H1 h1 h2 h3 h4 h5 => OutS.fin h3 h5
theorem es_ret (h : EvE X W e c) : EvS X W (.Return (some e) pos) (retC c) := PS.imp (ps_ret h) fun D σ H ⟨ι, vs, M, hr, o⟩ =>
  OutS.run (k := fun a M1 => .rt a M1) hr o fun ι1 a M1 b H1 h1 h2 h3 h4 h5 => h5 ι1 H1 b (List.prefix_refl _) (Keep.refl _) h3.rep h4
theorem es_retN : EvS X W (.Return none pos) retN := PS.imp ps_retN fun D σ H ⟨ι, vs, M, hr, o⟩ => o ι H .non (List.prefix_refl _) (Keep.refl _) hr.rep (by rw [vr_non])
theorem es_if {t1 : List Stmt} {t2 : List Stmt} (hc : EvT X W e t) (ha : EvB X W t1 a) (hb : EvB X W t2 b) : EvS X W (.If e t1 t2 pos) (ifS t a b) := PS.imp (ps_if hc ha hb) fun D σ H ⟨ι, vs, M, hr, o⟩ => by
  refine OutS.run (rel := relT) hr o fun ι1 k M1 k' H1 h1 h2 h3 h4 h5 => ?_
  subst h4
  cases k with
  | true => rw [if_pos rfl] at h5 ⊢; exact ⟨ι1, vs, M1, h3, h5⟩
  | false => rw [if_neg (by decide)] at h5 ⊢; exact ⟨ι1, vs, M1, h3, h5⟩
/-! targets -/
omit [Tb] in
theorem SLs.set {κ : Cfg} {ι : List Addr} {H : Hp} {vs : Loc} {σ : L2.St} {i : Nat} {sv : SV} {v : V} (h : SLs κ ι H vs σ) (r : SVR κ ι H sv v) : SLs κ ι H (vs.set i (some sv)) (σ.set i (some v)) := by
  refine ⟨by simp [h.len], fun j s' e => ?_⟩
  by_cases hj : j = i
  · subst hj
    have hl : j < vs.length := by
      have := (List.getElem?_eq_some_iff.mp e).1
      simpa using this
    rw [List.getElem?_set_self hl] at e
    cases e
    exact ⟨v, by rw [List.getElem?_set_self (by rw [← h.len]; exact hl)], r⟩
  · rw [List.getElem?_set_ne (Ne.symm hj)] at e
    obtain ⟨v', e', r'⟩ := h.at_ j s' e
    exact ⟨v', by rw [List.getElem?_set_ne (Ne.symm hj)]; exact e', r'⟩
omit [Tb] in
theorem Rel.slot {κ : Cfg} {ι : List Addr} {H : Hp} {vs : Loc} {M : AH} {σ : L2.St} {i : Nat} {a : AV} {v : V} (h : Rel κ ι vs M σ H) (r : VR κ ι H a v) : Rel κ ι (vs.set i (some (.val a))) M (σ.set i (some v)) H := ⟨h.sl.set r, h.rep⟩
theorem eg_name (i : Nat) (hN : X.N.Nodup) (hi : X.N[i]? = some x := by rfl) (hx : L2.Loc X.env.scope x := by first | exact .inl rfl | exact .inr rfl) (hf : X.fn x = true ∨ X.env.scope.names.lookup x = some .local := by first | exact .inl rfl | exact .inr rfl) : EvG X W (.Name x pos) (nameG i) :=
  ⟨fun pins s σ H v u Q I r ⟨ι, vs, M, a, hr, ha, o⟩ => (pg_name hN hi hx hf).run pins s σ H v u Q I r (OutS.fin (hr.slot ha) o)⟩
theorem egs_nil : EvGs X W [] nilG := ⟨fun pins s σ H xs us Q I r ⟨ι, vs, M, as, hr, ha, o⟩ => by
  unfold nilG at o
  split at o
  · obtain rfl := ha.nil_inv
    exact pgs_nil.run pins s σ H _ us Q I r ⟨rfl, OutS.fin hr o⟩
  · exact o.elim⟩
theorem consG_out {κ : Cfg} {ι : List Addr} {H : Hp} {Q : L2.St → Hp → Prop} {r : RS} {k : Loc → AH → RS} (o : OutS κ W ι H { nx := Q, rt := fun _ _ => False } (match r with
    | .nx vs1 M1 => k vs1 M1
    | .exc e fs vs1 M1 => .exc e fs vs1 M1
    | _ => .bad)) : OutS κ W ι H { nx := fun σ' H' => ∃ ι' vs M, ι <+: ι' ∧ Keep H H' ∧ Rel κ ι' vs M σ' H' ∧ OutS κ W ι' H' { nx := Q, rt := fun _ _ => False } (k vs M), rt := fun _ _ => False } r := by
  cases r with
  | nx vs1 M1 => exact fun ι' H' σ' h1 h2 h3 => ⟨ι', vs1, M1, h1, h2, h3, OutS.base o h1 h2⟩
  | exc e fs vs1 M1 => exact o
  | _ => exact o.elim
theorem egs_cons {es : List Expr} (h1 : EvG X W e g) (h2 : EvGs X W es gs) (hs : (assignEach (e :: es) X.env).map (·.2) = assign e X.env :: (assignEach es X.env).map (·.2) := by rfl) : EvGs X W (e :: es) (consG g gs) :=
  ⟨fun pins s σ H xs us Q I r ⟨ι, vs, M, as, hr, ha, o⟩ => by
    unfold consG at o
    split at o
    · rename_i a as
      obtain ⟨v, ws, rfl, g1, g2⟩ := ha.cons_inv
      refine (pgs_cons h1 h2 hs).run pins s σ H _ us Q I r ⟨v, ws, rfl, ι, vs, M, a, hr, g1, ?_⟩
      refine (consG_out o).imp (fun σ' H' ⟨ι', vs', M', k1, k2, k3, k4⟩ => ?_) (fun _ _ z => z) (fun _ _ z => z) (fun _ _ z => z)
      exact ⟨ι', vs', M', as, k3, g2.mono k1 k2, k4⟩
    · exact o.elim⟩
theorem eg_tup {es : List Expr} {k n : Nat} (hc : X.calm = true) (h : EvGs X W es gs) (hn : (assignEach es X.env).length = n := by rfl) (hst : (assignEach es X.env).findIdx? (·.1) = none := by rfl) : EvG X W (.Tuple es k pos) (tupG n gs) :=
  ⟨fun pins s σ H v u Q I r ⟨ι, vs, M, a, hr, ha, o⟩ => by
    unfold tupG at o
    split at o
    · rename_i xs
      split at o
      · rename_i hl
        rw [vr_tup] at ha
        obtain ⟨p, ws, rfl, hp, hw⟩ := ha
        exact (pg_tup hc h hn hst).run pins s σ H _ u Q I r ⟨p, ws, rfl, hp, by rw [← hw.length]; exact hl, ι, vs, M, xs, hr, hw, o⟩
      · exact o.elim
    · exact o.elim⟩
theorem eg_sub {o i : Expr} (hu : X.A.units + 64 < cLine) (ho : EvE X W o ca) (hi : EvE X W i cb)
    (ha : ∀ v, assign (.Subscript o i pos) X.env v = (do
      let ov ← holding [v] (eval o X.env)
      let iv ← holding [v, ov] (eval i X.env)
      standAt pos
      holding [v, ov, iv] (setItem ov iv v)
      release [v, ov, iv] []) := by intro _; rfl) : EvG X W (.Subscript o i pos) (subG ca cb) :=
  ⟨fun pins s σ H v u Q I r ⟨ι, vs, M, a, hr, hv, oo⟩ => by
    refine (pg_sub ho hi (st_all (W := W) hu) ha).run pins s σ H v u Q I r ?_
    have o' : Out (kf X) W (fun _ _ (_ : Unit) (_ : Unit) => True) ι vs σ H (fun _ H' => Q σ H') ((ca vs M).bind fun o M1 => (cb vs M1).bind fun i M2 => setA o i a M2) := by
      unfold subG at oo
      cases e : (ca vs M).bind fun o M1 => (cb vs M1).bind fun i M2 => setA o i a M2 with
      | ok z M1 => rw [e] at oo; exact fun ι' H' b k1 k2 k3 _ => oo ι' H' σ k1 k2 k3
      | exc k fs M1 => rw [e] at oo; exact fun ι' H' C d k1 k2 k3 k4 => oo ι' H' σ C d k1 k2 k3 k4
      | bad => rw [e] at oo; exact oo
    refine Out.run hr o' fun ι1 ov M1 v1 H1 h1 h2 h3 h4 h5 => Out.run h3 h5 fun ι2 iv M2 v2 H2 g1 g2 g3 g4 g5 => ?_
    exact ⟨ι2, vs, M2, σ, ov, iv, a, g3, h4.mono g1 g2, g4, (hv.mono h1 h2).mono g1 g2, g5⟩⟩
/-! assignments -/
theorem onlyG_out {κ : Cfg} {ι : List Addr} {H : Hp} {D : Ends} {r : RS} (o : OutS κ W ι H D (onlyG r)) : OutS κ W ι H { nx := D.nx, rt := fun _ _ => False } r := by
  cases r with
  | nx vs1 M1 => exact o
  | exc e fs vs1 M1 => exact o
  | _ => exact o.elim
theorem es_asg (he : EvE X W e c) (hg : EvG X W tg g) (hs : swapsWithSole [tg] e pos.line X.env = pure false := by rfl) (hw : swappedStores [tg] e X.env = pure none := by rfl)
    (h1 : (assignEach [tg] X.env).map (·.2) = [assign tg X.env] := by rfl) : EvS X W (.Assign [tg] e pos) (asgC c g) := PS.imp (ps_asg he hg hs hw h1) fun D σ H ⟨ι, vs, M, hr, o⟩ =>
  OutS.run hr o fun ι1 a M1 b H1 h1 h2 h3 h4 h5 => ⟨ι1, vs, M1, a, h3, h4, onlyG_out h5⟩
theorem es_set {p' : Pos} (i : Nat) (hN : X.N.Nodup) (he : EvE X W e c) (hi : X.N[i]? = some x := by rfl) (hx : L2.Loc X.env.scope x := by first | exact .inl rfl | exact .inr rfl) (hs : swapsWith e (some (.Name x p')) pos.line X.env = pure false := by rfl)
    (hf : X.fn x = true ∨ X.env.scope.names.lookup x = some .local := by first | exact .inl rfl | exact .inr rfl) : EvS X W (.Assign [.Name x p'] e pos) (asgC c (nameG i)) := PS.imp (ps_set hN hi hx he hs hf) fun D σ H ⟨ι, vs, M, hr, o⟩ =>
  OutS.run hr o fun ι1 a M1 b H1 h1 h2 h3 h4 h5 => OutS.fin (h3.slot h4) h5
theorem es_par {y : Str} {px py pt : Pos} {kt k2 : Nat} {pt2 : Pos} {ea eb : Expr} {r : CA} (i j : Nat) (hc : X.calm = true) (hN : X.N.Nodup) (ha : EvA X W [ea, eb] r) (hi : X.N[i]? = some x := by rfl) (hj : X.N[j]? = some y := by rfl) (hij : i ≠ j := by decide)
    (hx : X.env.scope.names.lookup x = some .local := by rfl) (hy : X.env.scope.names.lookup y = some .local := by rfl)
    (hw : swappedStores [.Tuple [.Name x px, .Name y py] kt pt] (.Tuple [ea, eb] k2 pt2) X.env = pure (some [x, y]) := by rfl)
    (hs : swapsWithSole [.Tuple [.Name x px, .Name y py] kt pt] (.Tuple [ea, eb] k2 pt2) pos.line X.env = pure false := by rfl) : EvS X W (.Assign [.Tuple [.Name x px, .Name y py] kt pt] (.Tuple [ea, eb] k2 pt2) pos) (parC i j r) :=
  PS.imp (ps_par hc hN hi hj hij hx hy ha hw hs) fun D σ H ⟨ι, vs, M, hr, o⟩ => OutS.run hr o fun ι1 as M1 ws H1 h1 h2 h3 h4 h5 => by
    split at h5
    · obtain ⟨v, ws', rfl, g1, g2⟩ := h4.cons_inv
      obtain ⟨w, ws2, rfl, g3, g4⟩ := g2.cons_inv
      obtain rfl := g4.nil_inv
      exact ⟨v, w, rfl, OutS.fin ((h3.slot g1).slot g3) h5⟩
    · exact h5.elim
/-! loops -/
theorem IT.stay {it : IT} : True := trivial
theorem es_for (hp : PassesOwn (model X.prog X.w) X.A X.env X.xe) (hc : X.calm = true) {ci : CI} (hi : EvI X W tg iter ci) (hg : EvG X W tg g) (hb : EvB X W body b) (hs : ∀ x, foldedSetIterable iter X.env x = pure x := by intro _; rfl) :
    EvS X W (.For tg iter body [] pos) (forC ci g b) := PS.imp (ps_for hp hc hi hg hb hs) fun D σ H ⟨ι, vs, M, hr, o⟩ => OutS.run hr o fun ι1 it M1 J H1 h1 h2 h3 h4 h5 => by
    refine ⟨fun i m σ' H' => m = it.items.length - i ∧ i ≤ it.items.length ∧ ∃ ι' vs' M', ι1 <+: ι' ∧ Keep H1 H' ∧ Rel (kf X) ι' vs' M' σ' H' ∧ OutS (kf X) W ι' H' D (loopC it g b (it.items.drop i) vs' M'), ⟨_, rfl, Nat.zero_le _, ι1, vs, M1, List.prefix_refl _, Keep.refl _, h3, by simpa using h5⟩, ?_⟩
    rintro i m σ' H' ⟨rfl, hi', ι', vs', M', k1, k2, k3, k4⟩
    by_cases hlt : i < it.items.length
    · have ed : it.items.drop i = it.items[i] :: it.items.drop (i + 1) := List.drop_eq_getElem_cons hlt
      rw [ed, loopC] at k4
      split at k4
      · rename_i hok
        obtain ⟨f1, f2⟩ := h4 i ι' M' H' k1 k2 k3.rep hok
        obtain ⟨f3, f4⟩ := f1 _ (List.getElem?_eq_getElem hlt)
        refine .inr ⟨f3, fun σ2 H2 => ∃ ι2 vs2 M2, ι1 <+: ι2 ∧ Keep H1 H2 ∧ Rel (kf X) ι2 vs2 M2 σ2 H2 ∧ OutS (kf X) W ι2 H2 D (loopC it g b (it.items.drop (i + 1)) vs2 M2), fun σ2 H2 ⟨ι2, vs2, M2, q1, q2, q3, q4⟩ => ⟨it.items.length - (i + 1), by omega, rfl, hlt, ι2, vs2, M2, q1, q2, q3, q4⟩, fun v H2 hy => ?_⟩
        obtain ⟨p1, p2, p3⟩ := f4 v H2 hy
        refine ⟨ι', vs', M', _, k3.keep p1 p2, p3, ?_⟩
        have k4 := k4.base (List.prefix_refl _) p1
        unfold turnC at k4
        cases eg : g it.items[i] vs' M' with
        | nx vs1 M1' =>
          rw [eg] at k4
          intro ι3 H3 σ3 w1 w2 w3
          refine ⟨ι3, vs1, M1', w3, ?_⟩
          have k4 := k4.base w1 w2
          dsimp only at k4
          have tr : ∀ {ι4 H4}, ι3 <+: ι4 → Keep H3 H4 → ι1 <+: ι4 ∧ Keep H1 H4 := fun a b => ⟨(k1.trans w1).trans a, ((k2.trans p1).trans w2).trans b⟩
          cases eb : b vs1 M1' with
          | nx vs2 M2 =>
            rw [eb] at k4
            exact fun ι4 H4 σ4 z1 z2 z3 => ⟨ι4, vs2, M2, (tr z1 z2).1, (tr z1 z2).2, z3, k4.base z1 z2⟩
          | ct vs2 M2 =>
            rw [eb] at k4
            exact fun ι4 H4 σ4 z1 z2 z3 => ⟨ι4, vs2, M2, (tr z1 z2).1, (tr z1 z2).2, z3, k4.base z1 z2⟩
          | bk vs2 M2 => rw [eb] at k4; exact k4
          | rt v' M2 => rw [eb] at k4; exact k4
          | exc e fs vs2 M2 => rw [eb] at k4; exact k4
          | bad => rw [eb] at k4; exact k4
        | exc e fs vs1 M1' => rw [eg] at k4; exact k4
        | bk vs1 M1' => rw [eg] at k4; exact k4.elim
        | ct vs1 M1' => rw [eg] at k4; exact k4.elim
        | rt v' M1' => rw [eg] at k4; exact k4.elim
        | bad => rw [eg] at k4; exact k4.elim
      · exact k4.elim
    · have e : i = it.items.length := by omega
      subst e
      rw [List.drop_length, loopC] at k4
      split at k4
      · rename_i hok
        obtain ⟨f1, f2⟩ := h4 _ ι' M' H' k1 k2 k3.rep hok
        exact .inl ⟨f2 rfl, OutS.fin k3 k4⟩
      · exact k4.elim
theorem es_while (hp : PassesOwn (model X.prog X.w) X.A X.env X.xe) (hc : EvT X W e t) (hb : EvB X W body b) : EvS X W (.While e body [] pos) (whileC t b) := PS.imp (ps_while hp hc hb) fun D σ H ⟨ι, vs, M, hr, o⟩ => by
  refine ⟨fun m σ' H' => ∃ ι' vs' M', Rel (kf X) ι' vs' M' σ' H' ∧ OutS (kf X) W ι' H' D (whileN t b m vs' M'), ⟨wfuel, ι, vs, M, hr, o⟩, ?_⟩
  rintro m σ' H' ⟨ι', vs', M', k1, k2⟩
  cases m with
  | zero => exact k2.elim
  | succ n =>
    rw [whileN] at k2
    refine OutS.run (rel := relT) k1 k2 fun ι1 k M1 k' H1 h1 h2 h3 h4 h5 => ?_
    subst h4
    cases k with
    | true =>
      rw [if_pos rfl] at h5 ⊢
      refine ⟨fun σ2 H2 => ∃ ι2 vs2 M2, Rel (kf X) ι2 vs2 M2 σ2 H2 ∧ OutS (kf X) W ι2 H2 D (whileN t b n vs2 M2), fun σ2 H2 ⟨ι2, vs2, M2, q1, q2⟩ => ⟨n, Nat.lt_succ_self _, ι2, vs2, M2, q1, q2⟩, ι1, vs', M1, h3, ?_⟩
      cases eb : b vs' M1 with
      | nx vs2 M2 => rw [eb] at h5; exact fun ι4 H4 σ4 z1 z2 z3 => ⟨ι4, vs2, M2, z3, h5.base z1 z2⟩
      | ct vs2 M2 => rw [eb] at h5; exact fun ι4 H4 σ4 z1 z2 z3 => ⟨ι4, vs2, M2, z3, h5.base z1 z2⟩
      | bk vs2 M2 => rw [eb] at h5; exact h5
      | rt v' M2 => rw [eb] at h5; exact h5
      | exc e fs vs2 M2 => rw [eb] at h5; exact h5
      | bad => rw [eb] at h5; exact h5
    | false => rw [if_neg (by decide)] at h5 ⊢; exact OutS.fin h3 h5
end
end AM
end

section
set_option Elab.async false
set_option linter.all false
set_option autoImplicit false
set_option maxRecDepth 100000
set_option maxHeartbeats 4000000
/-! AM 7: what loops walk. -/
namespace PySem
open Sem (wp)
open AutoSeq1 (wpAny_loadPart')
/-- enumerate of a tuple -/
theorem meets_enumerate_newT (l : Addr) (items : Array Value) (n : Nat) (dct : Option Addr) (sl : Array (Option Value)) :
    Meets (Builtin.«enumerate.__new__» ⟨[.type "enumerate", .ref l], []⟩) (fun _ R s => s.heap.get? l = some { cls := .type "tuple", dict := dct, data := .seq items n, slots := sl } ∧
      R (.ok (.ret (.ref (s.heap.push { cls := .type "tuple_iterator", data := .fields #[.ref l, .int 0 0] }).objs.size)))
        { s with heap := (s.heap.push { cls := .type "tuple_iterator", data := .fields #[.ref l, .int 0 0] }).push { cls := .type "enumerate", data := .fields #[.none, .bool false, .ref s.heap.objs.size, rawInt 0, .none, .none] } }) :=
  .of_wp fun prog w A R s h => by
    obtain ⟨hp, g, d, tk, os⟩ := s; obtain ⟨hl, h⟩ := h
    have hsub := sub_enumerate
    have hL : Heap.IsTuple (Shared.heap ⟨hp, g, d, tk, os⟩) l items := ⟨_, hl, rfl, n, rfl⟩
    wp_walk using wpAny_loadPart' hl
    refine wpAny_stack_any fun st => wpAny_pure ?_
    split
    · rename_i c _ _ _ _ _
      cases (c == Value.type "enumerate")
      · wp_walk using wpAny_loadPart' hl, wpAny_pyIter_tuple hL
        exact ⟨_, rfl, h⟩
      · wp_walk using wpAny_loadPart' hl, wpAny_pyIter_tuple hL
        exact ⟨_, rfl, h⟩
    · wp_walk using wpAny_loadPart' hl, wpAny_pyIter_tuple hL
      exact ⟨_, rfl, h⟩
section
variable {prog : Program} {w : World} {A : Around} {E : Value → Shared → Prop} {s : Shared}
theorem call_enumerate_tuple {l : Addr} {items : Array Value} {Q : Value → Shared → Prop} (hL : s.heap.IsTuple l items)
    (h : ∀ h', IsEnum h' (s.heap.objs.size + 1) s.heap.objs.size 0 .none → h'.IsTupleIter s.heap.objs.size l 0 → h'.objs.size = s.heap.objs.size + 2 →
      (∀ b o, s.heap.get? b = some o → h'.get? b = some o) → Q (.ref (s.heap.objs.size + 1)) { s with heap := h' }) :
    wpAny (model prog w) A (call (.type "enumerate") [.ref l]) Q E s := by
  obtain ⟨⟨c, dct, dt, sl⟩, hl, hc, n, hd⟩ := hL
  replace hc : c = .type "tuple" := hc
  replace hd : dt = .seq items n := hd
  subst hc hd
  refine callType_new F.called_enumerate (by decide) (F.typeCall_enumerate_1 _) (F.newCall_enumerate_1 _) (fun obj => F.args_object_init_2 obj _) F.entry_enumerate_new
    (meets_enumerate_newT l items n dct sl) ⟨hl, ?_⟩
  have hz : (s.heap.push { cls := .type "tuple_iterator", data := .fields #[.ref l, .int 0 0] }).objs.size = s.heap.objs.size + 1 := Heap.size_push ..
  show _ ∧ _
  rw [hz]
  have he : IsEnum ((s.heap.push { cls := .type "tuple_iterator", data := .fields #[.ref l, .int 0 0] }).push
      { cls := .type "enumerate", data := .fields #[.none, .bool false, .ref s.heap.objs.size, rawInt 0, .none, .none] }) (s.heap.objs.size + 1) s.heap.objs.size 0 .none := by
    have := Heap.get?_push_size (s.heap.push { cls := .type "tuple_iterator", data := .fields #[.ref l, .int 0 0] })
      (o := { cls := .type "enumerate", data := .fields #[.none, .bool false, .ref s.heap.objs.size, rawInt 0, .none, .none] }) rfl
    rw [hz] at this; exact this
  refine ⟨⟨_, he, rfl⟩, h _ he ⟨_, Heap.get?_push_of_some _ (Heap.get?_push_size _ rfl), rfl, rfl⟩ (by rw [Heap.size_push, hz]) fun b o x => Heap.get?_push_of_some _ (Heap.get?_push_of_some _ x)⟩
end
end PySem
namespace AM
open PySem PySem.Spec L2

/-! ### what they compute -/
/-- a list's or a tuple's items, with what has to stay -/
def walkA (a : AV) (M : AH) : Option IT := match a with
  | .tup xs => some ⟨xs, []⟩
  | .ref i => match M[i]? with
    | some (.lst xs) => some ⟨xs, [(i, xs)]⟩
    | some (.frz xs) => some ⟨xs, [(i, xs)]⟩
    | _ => none
  | _ => none
def iterA (a : AV) (M : AH) : R IT := match walkA a M with
  | some it => .ok it M
  | none => .bad
def valI (c : CE) : CI := fun vs M => (c vs M).bind iterA
def rangeV (lo : Int) (n : Nat) : List AV := (List.range n).map fun i => AV.int (lo + (i : Nat))
def rangeA1 (as : List AV) (M : AH) : R IT := match as with
  | [.int j] => if -(2 ^ 62) ≤ j ∧ j < 2 ^ 62 then .ok ⟨rangeV 0 j.toNat, []⟩ M else .bad
  | _ => .bad
def rangeA2 (as : List AV) (M : AH) : R IT := match as with
  | [.int i, .int j] => if -(2 ^ 62) ≤ i ∧ i < 2 ^ 62 ∧ -(2 ^ 62) ≤ j ∧ j < 2 ^ 62 then .ok ⟨rangeV i (j - i).toNat, []⟩ M else .bad
  | _ => .bad
def enumFrom (n : Nat) : List AV → List AV
  | [] => []
  | x :: xs => .tup [.int (n : Nat), x] :: enumFrom (n + 1) xs
def enumA (as : List AV) (M : AH) : R IT := match as with
  | [a] => match walkA a M with
    | some it => .ok ⟨enumFrom 0 it.items, it.guard⟩ M
    | none => .bad
  | _ => .bad
def isT : AV → Bool
  | .tup _ => true
  | _ => false
def zipA (as : List AV) (M : AH) : R IT := match as with
  | [a, b] => if isT a = isT b then match walkA a M, walkA b M with
      | some i, some j => .ok ⟨List.zipWith (fun x y => AV.tup [x, y]) i.items j.items, i.guard ++ j.guard⟩ M
      | _, _ => .bad
    else .bad
  | _ => .bad
def argsI (op : List AV → AH → R IT) (r : CA) : CI := fun vs M => (r vs M).bind op

/-! ### they are what is walked -/
section
variable {κ : Cfg} {ι : List Addr} {M : AH} {H : Hp}
theorem isLst_sq {i : Nat} {xs : List AV} {p : Addr} (hr : Rep κ ι M H) (ei : ι[i]? = some p) (h : isLst M (i, xs) = true) : ∃ ws, SqL κ.K H p ws ∧ VRs κ ι H xs ws := by
  unfold isLst at h
  split at h
  · rename_i ys q
    have e : ys = xs := of_decide_eq_true h
    subst e
    obtain ⟨ws, h1, h2⟩ := hr.at_ q ei
    exact ⟨ws, SqL.of h1, h2⟩
  · rename_i ys q
    have e : ys = xs := of_decide_eq_true h
    subst e
    obtain ⟨ob, ws, h1, h2⟩ := hr.at_ q ei
    exact ⟨ws, .inl (.inr ⟨ob, h1⟩), h2⟩
  · cases h
end
/-- what stands at an address while a loop walks it: either kind -/
def Sq (K : PySem.W.Frag) (t : Bool) (H : Hp) (a : Addr) (xs : List V) : Prop := if t = true then SqT K H a xs else SqL K H a xs
section
variable [Tb] {X : Cx} {W : WX} {pins : List (Addr × Obj)} {σ0 : L2.St} {s : Shared} {κ : Cfg} {ι ι' : List Addr} {M M' : AH} {H H' : Hp}
/-- a walk's source: its object and the items, as long as the guard holds -/
theorem walk_src {a : AV} {v : V} {it : IT} (hr : Rep κ ι M H) (e : walkA a M = some it) (h : VR κ ι H a v) :
    ∃ p ws, v = .ref p ∧ Sq κ.K (isT a) H p ws ∧ VRs κ ι H it.items ws ∧
      ∀ {ι' M' H'}, ι <+: ι' → Keep H H' → Rep κ ι' M' H' → it.ok M' = true → ∃ ws', Sq κ.K (isT a) H' p ws' ∧ VRs κ ι' H' it.items ws' := by
  unfold walkA at e
  split at e
  · rename_i xs
    cases e
    rw [vr_tup] at h
    obtain ⟨p, ws, rfl, hp, hw⟩ := h
    exact ⟨p, ws, rfl, hp, hw, fun h1 h2 h3 h4 => ⟨ws, h2.sqT hp, hw.mono h1 h2⟩⟩
  · rename_i i
    rw [vr_ref] at h
    obtain ⟨p, ei, rfl⟩ := h
    have go : ∀ xs, isLst M (i, xs) = true → it = ⟨xs, [(i, xs)]⟩ → ∃ p' ws, V.ref p = .ref p' ∧ Sq κ.K (isT (.ref i)) H p' ws ∧ VRs κ ι H it.items ws ∧
      ∀ {ι' M' H'}, ι <+: ι' → Keep H H' → Rep κ ι' M' H' → it.ok M' = true → ∃ ws', Sq κ.K (isT (.ref i)) H' p' ws' ∧ VRs κ ι' H' it.items ws' := by
      intro xs hx e
      subst e
      obtain ⟨ws, h1, h2⟩ := isLst_sq hr ei hx
      refine ⟨p, ws, rfl, h1, h2, fun k1 k2 k3 k4 => ?_⟩
      rename_i ιx Mx Hx
      have k5 : isLst Mx (i, xs) = true := by
        unfold IT.ok at k4
        simpa using k4
      exact isLst_sq k3 (pre_get k1 ei) k5
    split at e
    · rename_i xs q
      exact go xs (by unfold isLst; rw [q]; simp) (Option.some.inj e).symm
    · rename_i xs q
      exact go xs (by unfold isLst; rw [q]; simp) (Option.some.inj e).symm
    · cases e
  · cases e
theorem Sq.inj (I : Inv X pins σ0 H s) {t : Bool} {a : Addr} {xs ys : List V} (h : Sq X.K t H a xs) (h' : Sq X.K t H a ys) : xs = ys := by
  cases t with
  | true => exact I.tuple_inj h h'
  | false => exact I.list_inj h h'
/-- the items of a list or tuple as the walk finds them -/
def Itq (K : PySem.W.Frag) (t : Bool) (a : Addr) : It := if t = true then Itt K a else Itl K a
theorem itq_rel {t : Bool} {p : Addr} {it : IT} (f : ∀ {ι' M' H'}, ι <+: ι' → Keep H H' → Rep κ ι' M' H' → it.ok M' = true → ∃ ws', Sq κ.K t H' p ws' ∧ VRs κ ι' H' it.items ws') : ItR κ (Itq κ.K t p) ι H it := by
  intro i ι' M' H' h1 h2 h3 h4
  obtain ⟨ws, k1, k2⟩ := f h1 h2 h3 h4
  have hl := k2.length
  refine ⟨fun x hx => ?_, fun hi => ?_⟩
  · obtain ⟨v, hv, rv⟩ := k2.get hx
    cases t with
    | true =>
      refine ⟨⟨ws, v, k1, hv⟩, fun v' H2 hy => ?_⟩
      obtain ⟨e, y⟩ := hy
      subst e
      have e2 : v' = v := Option.some.inj ((y ws k1).symm.trans hv)
      subst e2
      exact ⟨Keep.refl _, fun _ _ _ => rfl, rv⟩
    | false =>
      refine ⟨⟨ws, v, k1, hv⟩, fun v' H2 hy => ?_⟩
      obtain ⟨e, y⟩ := hy
      subst e
      have e2 : v' = v := Option.some.inj ((y ws k1).symm.trans hv)
      subst e2
      exact ⟨Keep.refl _, fun _ _ _ => rfl, rv⟩
  · cases t with
    | true => exact ⟨ws, k1, by omega⟩
    | false => exact ⟨ws, k1, by omega⟩
/-- a list's or a tuple's iterator comes -/
theorem it_begins {tg : Expr} {t : Bool} {p : Addr} {ws : List V} {R : It → Hp → Prop} (I : Inv X pins σ0 H s) (h : Sq X.K t H p ws) (q : R (Itq X.K t p) H) : wpAny (model X.prog X.w) X.A (pyIter (.ref p)) (PIE X pins σ0 tg R) X.xe s := by
  cases t with
  | true =>
    obtain ⟨its, rv, pl, hz⟩ := I.tuple h
    refine wpAny_pyIter_tuple (show s.heap.IsTuple p its.toArray from pl) ?_
    refine ⟨s.heap.objs.size, [s.heap.objs.size], _, _, H, rfl, I.kept (t' := s.toks) fun b o e => Heap.get?_push_of_some _ e, turn_tuple p _, ⟨_, Heap.get?_push_size _ rfl, rfl, rfl⟩, fun b hb => ?_, q⟩
    have e : b = s.heap.objs.size := by simpa using hb
    subst e
    exact I.fpOk (Nat.le_refl _) (I.hok.fresh (Nat.le_refl _))
  | false =>
    obtain ⟨its, rv, pl, hz⟩ := I.list h
    refine wpAny_pyIter_list pl.isList ?_
    refine ⟨s.heap.objs.size, [s.heap.objs.size], _, _, H, rfl, I.kept (t' := s.toks) fun b o e => Heap.get?_push_of_some _ e, turn_list p _, ⟨_, Heap.get?_push_size _ rfl, rfl, rfl⟩, fun b hb => ?_, q⟩
    have e : b = s.heap.objs.size := by simpa using hb
    subst e
    exact I.fpOk (Nat.le_refl _) (I.hok.fresh (Nat.le_refl _))
section
variable {tg e e2 : Expr} {es : List Expr} {c : CE} {r : CA} {p pos tpos : Pos} {elts : List Expr} {kk : Nat}
theorem PI.imp {t t' : TI} (h : PI X tg e t) (k : ∀ σ H Q, t' σ H Q → t σ H Q) : PI X tg e t' := ⟨fun pins s σ H Q I q => h.run pins s σ H Q I (k σ H Q q)⟩
theorem ei_val (he : EvE X W e c) : EvI X W tg e (valI c) := by
  refine ⟨fun pins s σ H R I ⟨ι, vs, M, hr, o⟩ => ?_⟩
  refine thn (he.run pins s σ H _ I (Out.run (Q1 := fun v H1 => ∃ p ws t, v = .ref p ∧ Sq X.K t H1 p ws ∧ R (Itq X.K t p) H1) hr o fun ι1 a M1 v H1 h1 h2 h3 h4 h5 => ?_)) fun v s1 ⟨x, H1, I1, r1, p, ws, t, e, hq, q⟩ => ?_
  · unfold iterA at h5
    split at h5
    · rename_i it ew
      obtain ⟨p, ws, rfl, k1, k2, k3⟩ := walk_src h3.rep ew h4
      exact ⟨p, ws, _, rfl, k1, Out.fin h3 h5 (itq_rel k3)⟩
    · exact h5.elim
  · subst e
    cases r1
    exact it_begins I1 hq q
theorem rg_rel {lo : Int} {n : Nat} : ItR κ (Itr lo n) ι H ⟨rangeV lo n, []⟩ := by
  intro i ι' M' H' h1 h2 h3 h4
  refine ⟨fun x hx => ?_, fun hi => ?_⟩
  · have hx : (rangeV lo n)[i]? = some x := hx
    unfold rangeV at hx
    rw [List.getElem?_map] at hx
    obtain ⟨j, e1, e2⟩ := Option.map_eq_some_iff.mp hx
    have hj : j = i ∧ i < n := by
      obtain ⟨h9, e9⟩ := List.getElem?_eq_some_iff.mp e1
      have h10 : i < n := by simpa using h9
      rw [List.getElem_range] at e9
      exact ⟨e9.symm, h10⟩
    obtain ⟨rfl, hlt⟩ := hj
    subst e2
    refine ⟨hlt, fun v H2 hy => ?_⟩
    obtain ⟨e, ev⟩ := hy
    subst e; subst ev
    exact ⟨Keep.refl _, fun _ _ _ => rfl, by rw [vr_int]⟩
  · show n ≤ i
    have hi : i = (rangeV lo n).length := hi
    simp [rangeV] at hi
    omega
theorem ei_range1 (hg : Gl X "range") (hm : X.mg "range" = none) (ha : EvA X W [e] r) (hs : starEach [e] X.env = [(false, eval e X.env)] := by rfl) : EvI X W tg (.Call (.Name "range" p) [e] [] pos) (argsI rangeA1 r) :=
  PI.imp (pi_range1 hg hm ha hs) fun σ H Q ⟨ι, vs, M, hr, o⟩ => by
    refine Out.run hr o fun ι1 as M1 ws H1 h1 h2 h3 h4 h5 => ?_
    unfold rangeA1 at h5
    split at h5
    · split at h5
      · rename_i hb
        obtain ⟨v, ws', rfl, g1, g2⟩ := h4.cons_inv
        obtain rfl := g2.nil_inv
        rw [vr_int] at g1; subst g1
        exact ⟨_, rfl, hb.1, hb.2, Out.fin h3 h5 rg_rel⟩
      · exact h5.elim
    · exact h5.elim
theorem ei_range2 (hg : Gl X "range") (hm : X.mg "range" = none) (ha : EvA X W [e, e2] r) (hs : starEach [e, e2] X.env = [(false, eval e X.env), (false, eval e2 X.env)] := by rfl) (hs2 : starEach [e2] X.env = [(false, eval e2 X.env)] := by rfl) : EvI X W tg (.Call (.Name "range" p) [e, e2] [] pos) (argsI rangeA2 r) :=
  PI.imp (pi_range2 hg hm ha hs hs2) fun σ H Q ⟨ι, vs, M, hr, o⟩ => by
    refine Out.run hr o fun ι1 as M1 ws H1 h1 h2 h3 h4 h5 => ?_
    unfold rangeA2 at h5
    split at h5
    · split at h5
      · rename_i hb
        obtain ⟨v, ws', rfl, g1, g2⟩ := h4.cons_inv
        obtain ⟨v2, ws2, rfl, g3, g4⟩ := g2.cons_inv
        obtain rfl := g4.nil_inv
        rw [vr_int] at g1 g3; subst g1; subst g3
        exact ⟨_, _, rfl, hb, Out.fin h3 h5 rg_rel⟩
      · exact h5.elim
    · exact h5.elim
/-! enumerate -/
def IteT (K : PySem.W.Frag) (a : Addr) : It :=
  ⟨fun i H => ∃ (xs : List V) (x : V), SqT K H a xs ∧ xs[i]? = some x, fun i H v H' => ∃ T x, v = .ref T ∧ H T = none ∧ H' = upd H T (.tup [.int (i : Nat), x]) ∧ ∀ xs, SqT K H a xs → xs[i]? = some x, fun i H => ∃ xs : List V, SqT K H a xs ∧ i = xs.length⟩
theorem turn_enumT {P : Program} {w : World} {K : PySem.W.Frag} {elts : List Expr} {kk : Nat} {tpos : Pos} (a e it : Addr) :
    Turn P w K (.Tuple elts kk tpos) (IteT K a) [e, it] e (fun i h => (∃ old, IsEnum h e it ((i : Nat) : Int) old) ∧ h.IsTupleIter it a i ∧ e ≠ it ∧ a ≠ it ∧ a ≠ e) where
  mem := by simp
  obj := fun i h st b hb => by
    obtain ⟨⟨old, he⟩, ⟨o, ho, hc, hd⟩, _⟩ := st
    have e' : b = e ∨ b = it := by simpa using hb
    rcases e' with z | z
    · rw [z]; exact ⟨_, he, fun v q => nomatch q⟩
    · rw [z]; exact ⟨o, ho, fun v q => by rw [hd] at q; cases q⟩
  keep := fun i h h' st k => let ⟨⟨old, he⟩, hi, hne⟩ := st; ⟨⟨old, k e (by simp) _ he⟩, hi.at fun o q => k it (by simp) o q, hne⟩
  item := by
    intro X hP hw hK hc i pins s σ H E I hf st hg
    subst hP hw hK
    obtain ⟨⟨old, he⟩, hit, hne, hai, hae⟩ := st
    obtain ⟨xs, x, hq, hx⟩ := hg
    obtain ⟨its, rv, p, hz⟩ := I.tuple hq
    obtain ⟨u, hu, ru⟩ := rv.get hx
    have hel : e < s.heap.objs.size := Heap.lt_size he
    have hil : it < s.heap.objs.size := by obtain ⟨_, q, _⟩ := hit; exact Heap.lt_size q
    have hlen : i < its.toArray.size := by
      have := (List.getElem?_eq_some_iff.mp hu).1
      simpa using this
    refine wpAny_pyNext_enum_itemD (Draws.tuple (prog := X.prog) (w := X.w) (A := X.A.in1) (I.ok.hd hc) it a hai its.toArray) he ⟨hit, p⟩ hlen hne (by simp [hne, Ne.symm hae]) fun u' h' tk hP ho hst hT hsz hk => ?_
    have eu : u' = u := by
      have h1 : its.toArray[i]? = some u' := hP
      have h2 : its.toArray[i]? = some u := by simpa using hu
      exact Option.some.inj (h1.symm.trans h2)
    subst eu
    refine ⟨_, rfl, wpAny_letOwnedTupleGo_enum (s := { s with heap := h', toks := tk + 1 }) ho fun h'' he' sb => ?_⟩
    have hT2 : h''.get? s.heap.objs.size = some { cls := .type "tuple", data := .seq #[.int i tk, u'] } := (sb.2 _ (Nat.ne_of_gt hel)).trans hT
    have new : ObjOk X.prog X.w (upd H s.heap.objs.size (.tup [.int (i : Nat), x])) h'' s.heap.objs.size (.tup [.int (i : Nat), x]) :=
      ⟨by show 2 ≤ sizeLine; decide, [.int i tk, u'], .cons ⟨_, rfl⟩ (.cons ru .nil), ⟨_, hT2, rfl, _, rfl⟩⟩
    have I1 : Inv X pins σ (upd H s.heap.objs.size (.tup [.int (i : Nat), x])) { s with heap := h'', toks := tk + 1 } :=
      I.turnedNew (ch := [e, it]) (fun b ob hb q => (sb.2 b (fun z => hb (by simp [z]))).trans (hk b ob (fun z => hb (by simp [z])) (fun z => hb (by simp [z])) q)) hf (Nat.le_refl _) new
    refine ⟨.ref s.heap.objs.size, _, I1, rfl, ⟨_, x, rfl, I.hok.fresh (Nat.le_refl _), rfl, fun ys hy => by rw [I.tuple_inj hy hq]; exact hx⟩, ⟨⟨u', ?_⟩, hst.1.at fun o q => (sb.2 it (Ne.symm hne)).trans q, hne, hai, hae⟩, fun b hb => ?_⟩
    · have e1 : ((i + 1 : Nat) : Int) = (i : Int) + 1 := by omega
      rw [e1]; exact he'
    · have hb' : b < s.heap.objs.size := by
        have e' : b = e ∨ b = it := by simpa using hb
        rcases e' with z | z
        · rw [z]; exact hel
        · rw [z]; exact hil
      rw [upd_ne (Nat.ne_of_lt hb')]
      exact (hf b hb).1
  done := by
    intro X hP hw hK hc i pins s σ H E I hf st hg
    subst hP hw hK
    obtain ⟨⟨old, he⟩, hit, hne, hai, hae⟩ := st
    obtain ⟨xs, hq, hx⟩ := hg
    obtain ⟨its, rv, p, hz⟩ := I.tuple hq
    obtain ⟨f0, f1, f2, f3, f4, f5⟩ := hf it (by simp)
    have hl := rv.length
    have e0 : i = its.toArray.size := by rw [hx, hl]; simp
    subst e0
    exact wpAny_pyNext_enum_endD (Draws.tuple (prog := X.prog) (w := X.w) (A := X.A.in1) (I.ok.hd hc) it a hai its.toArray) he ⟨hit, p⟩ fun h' eb => ⟨rfl, I.turned (t' := s.toks) (fun b o hb q => eb b o hb q) f0 f1 f3 f4 f5⟩
  self := fun A i s Q E st h => let ⟨⟨_, he⟩, _⟩ := st; wpAny_pyIter_enum he h

def IteQ (K : PySem.W.Frag) (t : Bool) (a : Addr) : It := if t = true then IteT K a else Ite K a
theorem enumFrom_get : ∀ {xs : List AV} {n i : Nat} {x : AV}, (enumFrom n xs)[i]? = some x → ∃ y, xs[i]? = some y ∧ x = .tup [.int ((n + i : Nat) : Int), y]
  | [], n, i, x, h => by simp [enumFrom] at h
  | a :: xs, n, 0, x, h => by simp [enumFrom] at h; exact ⟨a, rfl, by rw [← h]; rfl⟩
  | a :: xs, n, i + 1, x, h => by
    obtain ⟨y, h1, h2⟩ := enumFrom_get (xs := xs) (n := n + 1) (i := i) (by simpa [enumFrom] using h)
    exact ⟨y, by simpa using h1, by rw [h2]; congr 4; omega⟩
theorem enumFrom_len : ∀ (xs : List AV) (n : Nat), (enumFrom n xs).length = xs.length
  | [], _ => rfl
  | _ :: xs, n => by simp [enumFrom, enumFrom_len xs]
/-- a new pair is no object of ours -/
theorem new_pair {T : Addr} {a b : AV} {va vb : V} {H : Hp} (hr : Rep κ ι M H) (hT : H T = none) (ha : VR κ ι H a va) (hb : VR κ ι H b vb) :
    Keep H (upd H T (.tup [va, vb])) ∧ (∀ c u, H c = some u → upd H T (.tup [va, vb]) c = H c) ∧ VR κ ι (upd H T (.tup [va, vb])) (.tup [a, b]) (.ref T) := by
  have k := Keep.new (o := .tup [va, vb]) hT
  refine ⟨k, fun c u hu => upd_ne (ne_of_none hu hT), ?_⟩
  rw [vr_tup]
  exact ⟨T, _, rfl, SqT.of upd_same, .cons (ha.mono (List.prefix_refl _) k) (.cons (hb.mono (List.prefix_refl _) k) .nil)⟩
theorem ite_rel {t : Bool} {p : Addr} {it : IT} (f : ∀ {ι' M' H'}, ι <+: ι' → Keep H H' → Rep κ ι' M' H' → it.ok M' = true → ∃ ws', Sq κ.K t H' p ws' ∧ VRs κ ι' H' it.items ws') : ItR κ (IteQ κ.K t p) ι H ⟨enumFrom 0 it.items, it.guard⟩ := by
  intro i ι' M' H' h1 h2 h3 h4
  obtain ⟨ws, k1, k2⟩ := f h1 h2 h3 h4
  have hl := k2.length
  refine ⟨fun x hx => ?_, fun hi => ?_⟩
  · obtain ⟨y, hy, ex⟩ := enumFrom_get hx
    subst ex
    obtain ⟨v, hv, rv⟩ := k2.get hy
    have go : ∀ v' H2, (∃ T z, v' = V.ref T ∧ H' T = none ∧ H2 = upd H' T (.tup [.int (i : Nat), z]) ∧ ws[i]? = some z) → Keep H' H2 ∧ (∀ c u, H' c = some u → H2 c = H' c) ∧ VR κ ι' H2 (.tup [.int ((0 + i : Nat) : Int), y]) v' := by
      rintro v' H2 ⟨T, z, rfl, hT, rfl, hz⟩
      have e2 : z = v := Option.some.inj (hz.symm.trans hv)
      subst e2
      rw [Nat.zero_add]
      exact new_pair h3 hT (by rw [vr_int]) rv
    cases t with
    | true => exact ⟨⟨ws, v, k1, hv⟩, fun v' H2 ⟨T, z, a1, a2, a3, a4⟩ => go v' H2 ⟨T, z, a1, a2, a3, a4 ws k1⟩⟩
    | false => exact ⟨⟨ws, v, k1, hv⟩, fun v' H2 ⟨T, z, a1, a2, a3, a4⟩ => go v' H2 ⟨T, z, a1, a2, a3, a4 ws k1⟩⟩
  · have hi : i = (enumFrom 0 it.items).length := hi
    rw [enumFrom_len] at hi
    cases t with
    | true => exact ⟨ws, k1, by omega⟩
    | false => exact ⟨ws, k1, by omega⟩
theorem ei_enum (hg : Gl X "enumerate") (hm : X.mg "enumerate" = none) (ha : EvA X W [e] r) (hs : starEach [e] X.env = [(false, eval e X.env)] := by rfl) : EvI X W (.Tuple elts kk tpos) (.Call (.Name "enumerate" p) [e] [] pos) (argsI enumA r) := by
  refine ⟨fun pins s σ H R I ⟨ι, vs, M, hr, o⟩ => ?_⟩
  refine PyProof.Rows.Call_ (ld_blt I hg hm PyProof.Rows.boot_enumerate (PyProof.Rows.callWith_type1 (thn (ha.run pos pins s σ H _ I (Out.run (Q1 := fun vs H1 => ∃ p ws t, vs = [.ref p] ∧ Sq X.K t H1 p ws ∧ R (IteQ X.K t p) H1) hr o fun ι1 as M1 ws H1 h1 h2 h3 h4 h5 => ?_)) fun us s1 ⟨vs, H1, I1, r1, p, ws, t, ex, hq, q⟩ => ?_) hs rfl))
  · unfold enumA at h5
    split at h5
    · rename_i a
      obtain ⟨v, ws', rfl, g1, g2⟩ := h4.cons_inv
      obtain rfl := g2.nil_inv
      split at h5
      · rename_i it ew
        obtain ⟨p, ws, rfl, k1, k2, k3⟩ := walk_src h3.rep ew g1
        exact ⟨p, ws, _, rfl, k1, Out.fin h3 h5 (ite_rel k3)⟩
      · exact h5.elim
    · exact h5.elim
  · subst ex
    cases r1 with
    | cons r rr =>
      cases rr
      cases r
      have fp : ∀ b ∈ [s1.heap.objs.size + 1, s1.heap.objs.size], FpOk X pins H1 b := fun b hb => by
        have e' : b = s1.heap.objs.size + 1 ∨ b = s1.heap.objs.size := by simpa using hb
        have hle : s1.heap.objs.size ≤ b := by
          rcases e' with z | z
          · rw [z]; exact Nat.le_add_right _ _
          · rw [z]; exact Nat.le_refl _
        exact I1.fpOk hle (I1.hok.fresh hle)
      cases t with
      | true =>
        obtain ⟨its, rv, p', hz⟩ := I1.tuple hq
        have hpl : p < s1.heap.objs.size := p'.lt
        refine call_enumerate_tuple (show s1.heap.IsTuple p its.toArray from p') fun h' he hit hsz hk => wpAny_pyIter_enum he ?_
        exact ⟨s1.heap.objs.size + 1, [s1.heap.objs.size + 1, s1.heap.objs.size], _, _, H1, rfl, I1.kept (t' := s1.toks) hk, turn_enumT p (s1.heap.objs.size + 1) s1.heap.objs.size, ⟨⟨.none, he⟩, hit, Nat.succ_ne_self _, Nat.ne_of_lt hpl, Nat.ne_of_lt (Nat.lt_succ_of_lt hpl)⟩, fp, q⟩
      | false =>
        obtain ⟨its, rv, p', hz⟩ := I1.list hq
        refine call_enumerate_list p'.isList fun h' he hit hsz hk => wpAny_pyIter_enum he ?_
        exact ⟨s1.heap.objs.size + 1, [s1.heap.objs.size + 1, s1.heap.objs.size], _, _, H1, rfl, I1.kept (t' := s1.toks) hk, turn_enum p (s1.heap.objs.size + 1) s1.heap.objs.size, ⟨⟨.none, he⟩, hit, Nat.succ_ne_self _⟩, fp, q⟩
/-! zip -/
def ItzQ (K : PySem.W.Frag) (t : Bool) (a b : Addr) : It := if t = true then RZ.ItzT K a b else Itz K a b
theorem itz_rel {t : Bool} {p q : Addr} {i1 i2 : IT} (f : ∀ {ι' M' H'}, ι <+: ι' → Keep H H' → Rep κ ι' M' H' → i1.ok M' = true → ∃ ws', Sq κ.K t H' p ws' ∧ VRs κ ι' H' i1.items ws')
    (g : ∀ {ι' M' H'}, ι <+: ι' → Keep H H' → Rep κ ι' M' H' → i2.ok M' = true → ∃ ws', Sq κ.K t H' q ws' ∧ VRs κ ι' H' i2.items ws') :
    ItR κ (ItzQ κ.K t p q) ι H ⟨List.zipWith (fun x y => AV.tup [x, y]) i1.items i2.items, i1.guard ++ i2.guard⟩ := by
  intro i ι' M' H' h1 h2 h3 h4
  have h4 : (i1.guard ++ i2.guard).all (isLst M') = true := h4
  rw [List.all_append, Bool.and_eq_true] at h4
  obtain ⟨ws, k1, k2⟩ := f h1 h2 h3 h4.1
  obtain ⟨zs, l1, l2⟩ := g h1 h2 h3 h4.2
  have hl := k2.length
  have hl2 := l2.length
  refine ⟨fun x hx => ?_, fun hi => ?_⟩
  · have hx : (List.zipWith (fun x y => AV.tup [x, y]) i1.items i2.items)[i]? = some x := hx
    rw [List.getElem?_zipWith] at hx
    split at hx
    · rename_i a b ea eb
      cases hx
      obtain ⟨v, hv, rv⟩ := k2.get ea
      obtain ⟨w, hw, rw'⟩ := l2.get eb
      have go : ∀ v' H2, (∃ T y z, v' = V.ref T ∧ H' T = none ∧ H2 = upd H' T (.tup [y, z]) ∧ ws[i]? = some y ∧ zs[i]? = some z) → Keep H' H2 ∧ (∀ c u, H' c = some u → H2 c = H' c) ∧ VR κ ι' H2 (.tup [a, b]) v' := by
        rintro v' H2 ⟨T, y, z, rfl, hT, rfl, hy, hz⟩
        have e1 : y = v := Option.some.inj (hy.symm.trans hv)
        have e2 : z = w := Option.some.inj (hz.symm.trans hw)
        subst e1; subst e2
        exact new_pair h3 hT rv rw'
      cases t with
      | true => exact ⟨⟨ws, zs, v, w, k1, l1, hv, hw⟩, fun v' H2 ⟨T, y, z, a1, a2, a3, a4, a5⟩ => go v' H2 ⟨T, y, z, a1, a2, a3, a4 ws k1, a5 zs l1⟩⟩
      | false => exact ⟨⟨ws, zs, v, w, k1, l1, hv, hw⟩, fun v' H2 ⟨T, y, z, a1, a2, a3, a4, a5⟩ => go v' H2 ⟨T, y, z, a1, a2, a3, a4 ws k1, a5 zs l1⟩⟩
    · cases hx
  · have hi : i = (List.zipWith (fun x y => AV.tup [x, y]) i1.items i2.items).length := hi
    rw [List.length_zipWith] at hi
    cases t with
    | true => exact ⟨ws, zs, k1, l1, by omega⟩
    | false => exact ⟨ws, zs, k1, l1, by omega⟩
theorem ei_zip (hg : Gl X "zip") (hm : X.mg "zip" = none) (ha : EvA X W [e, e2] r)
    (hs : starEach [e, e2] X.env = (false, eval e X.env) :: starEach [e2] X.env := by rfl) (hpl : (backTo pos (starEach [e2] X.env)).any (·.1) = false := by rfl) : EvI X W (.Tuple elts kk tpos) (.Call (.Name "zip" p) [e, e2] [] pos) (argsI zipA r) :=
  PI.imp (RZ.pi_zipA hg hm ha hs hpl) fun σ H Q ⟨ι, vs, M, hr, o⟩ => by
    refine Out.run hr o fun ι1 as M1 ws H1 h1 h2 h3 h4 h5 => ?_
    unfold zipA at h5
    split at h5
    · rename_i a b
      obtain ⟨v, ws', rfl, g1, g2⟩ := h4.cons_inv
      obtain ⟨v2, ws2, rfl, g3, g4⟩ := g2.cons_inv
      obtain rfl := g4.nil_inv
      split at h5
      · rename_i et
        split at h5
        · rename_i i j e1 e2
          obtain ⟨p, us, rfl, k1, k2, k3⟩ := walk_src h3.rep e1 g1
          obtain ⟨q, zs, rfl, l1, l2, l3⟩ := walk_src h3.rep e2 g3
          rw [← et] at l1 l3
          refine ⟨p, q, us, zs, rfl, ?_⟩
          have fin := fun t (et : isT a = t) => Out.fin (rel := relI (kf X)) (b := ItzQ X.K t p q) h3 h5 (by subst et; exact itz_rel k3 l3)
          cases et2 : isT a with
          | true =>
            rw [et2] at k1 l1
            exact .inr ⟨k1, l1, fin true et2⟩
          | false =>
            rw [et2] at k1 l1
            exact .inl ⟨k1, l1, fin false et2⟩
        · exact h5.elim
      · exact h5.elim
    · exact h5.elim
end
end
end AM
end

section
set_option Elab.async false
set_option linter.all false
set_option autoImplicit false
set_option maxRecDepth 100000
set_option maxHeartbeats 4000000
/-! AM 8: functions and their calls. -/
namespace AM
open PySem PySem.Spec L2

/-! ### a function's run -/
def startL (n : Nat) (as : List SV) : Loc := as.map some ++ List.replicate (n - as.length) none
def fnEnd (r : RS) : R AV := match r with
  | .rt a M => .ok a M
  | .nx _ M => .ok .non M
  | .exc c fs _ M => .exc c fs M
  | _ => .bad
def fnRun (n : Nat) (body : CS) (as : List SV) (M : AH) : R AV := fnEnd (body (startL n as) M)
/-- a promise -/
def spF (κ : Cfg) (n : Nat) (F : List SV → AH → R AV) : Sp := fun vs H Q E => vs.length = n ∧ ∃ ι M as, Rep κ ι M H ∧ Paired (SVR κ ι H) as vs ∧ OutF κ ι H Q E (F as M)
abbrev WR (E : XK) : WX := fun cls d _ H => E cls d H
/-- what a body's rules ask -/
structure Be (X : Cx) (W : WX) (k : Nat) : Prop where
  calm : X.calm = true
  nd : X.N.Nodup
  tk : Takes X W
  room : Room k X.A
  gd : X.A.guards = some []
structure Bd (X : Cx) (W : WX) (k : Nat) : Prop extends Be X W k where
  own : PassesOwn (model X.prog X.w) X.A X.env X.xe
  cb : X.Ok → ∀ x c, X.env.cells.lookup x = some c → X.base.get? c = none ∧ c ∉ frs X.stack
theorem cellsFrom_ge : ∀ {names : List (Str × NameKind)} {n : Nat} {acc : List (Str × Addr)} {x : Str} {c : Addr}, (x, c) ∈ cellsFrom n names acc → (x, c) ∈ acc ∨ n ≤ c
  | [], _, _, _, _, h => .inl h
  | (m, k) :: r, n, acc, x, c, h => by
    unfold cellsFrom at h
    split at h
    · rcases cellsFrom_ge h with h | h
      · rcases List.mem_cons.mp h with e | h
        · cases e; exact .inr (Nat.le_refl _)
        · exact .inl h
      · exact .inr (Nat.le_of_succ_le h)
    · exact cellsFrom_ge h
theorem cb_fn {CX : CXT} {P : Program} {w : World} {K : PySem.W.Frag} {mg : Str → Option Value} {base : Heap} {N : List Str} {qual : Str} {scope : Scope} {f : Addr} {cdv : Value} {A : Around} {outer : List Env} {s : Shared} {H : Hp} {E : XK}
    (ok : (cxOf CX P w K mg base N qual scope f cdv A outer s H E).Ok) (x : Str) (c : Addr) (e : (cxOf CX P w K mg base N qual scope f cdv A outer s H E).env.cells.lookup x = some c) :
    base.get? c = none ∧ c ∉ frs (cxOf CX P w K mg base N qual scope f cdv A outer s H E).stack := by
  have hg : s.heap.objs.size + 1 ≤ c := by
    rcases cellsFrom_ge (show (x, c) ∈ cellsFrom (s.heap.objs.size + 1) scope.names [] from PySem.mem_of_lookup e) with h | h
    · cases h
    · exact h
  refine ⟨Heap.get?_none_of_le (Nat.le_trans ok.bsz (Nat.le_of_succ_le hg)), fun hm => ?_⟩
  rcases List.mem_cons.mp (show c ∈ s.heap.objs.size :: frs outer from hm) with h | h
  · rw [h] at hg; exact absurd hg (Nat.not_succ_le_self _)
  · obtain ⟨_, o, ho, _⟩ := ok.funs.mem h
    exact absurd (Nat.lt_of_lt_of_le (Heap.lt_size ho) (Nat.le_of_succ_le hg)) (Nat.lt_irrefl _)
/-- a def that is known -/
structure Kn (κ : Cfg) (k : Nat) (x : Str) (n : Nat) (F : List SV → AH → R AV) : Prop where
  ex : ∃ (f : Addr) (fd : FuncData) (ps : List Str), κ.mg x = some (.ref f) ∧ PySem.W.keepIn κ.K (.ref f) = true ∧ FnG κ k f fd ps (spF κ n F) ∧ Binds κ.K fd ps []
theorem Kn.mono {κ : Cfg} {j k n : Nat} {x : Str} {F : List SV → AH → R AV} (h : Kn κ j x n F) (hk : j ≤ k) : Kn κ k x n F := by
  obtain ⟨f, fd, ps, h1, h2, h3, h4⟩ := h.ex
  exact ⟨f, fd, ps, h1, h2, h3.mono hk, h4⟩
section
variable {κ : Cfg} {ι : List Addr} {H : Hp} {vs : Loc} {M : AH} {σ : L2.St} {as : List SV} {ws : List V}
theorem SLs.start {N : List Str} (h : Paired (SVR κ ι H) as ws) : SLs κ ι H (startL N.length as) (L2.start N ws) := by
  have hl := Paired.length h
  refine ⟨?_, fun i sv e => ?_⟩
  · unfold startL L2.start
    simp [hl]
  · unfold startL at e
    unfold L2.start
    have hi : i < as.length := by
      by_cases hi : i < as.length
      · exact hi
      · rw [List.getElem?_append_right (by simpa using hi), List.getElem?_replicate] at e
        split at e <;> cases e
    rw [List.getElem?_append_left (by simpa using hi), List.getElem?_map] at e
    rw [List.getElem?_append_left (by simpa [← hl] using hi), List.getElem?_map]
    clear hi hl
    induction h generalizing i with
    | nil => simp at e
    | cons r t ih =>
      cases i with
      | zero => simp at e; subst e; exact ⟨_, rfl, r⟩
      | succ i => simpa using ih i (by simpa using e)
theorem OutF.ofOut {W : WX} {E : XK} {Q : VK} {r : R AV} (hs : SLs κ ι H vs σ) (hW : ∀ cls d H', E cls d H' ↔ W cls d σ H') (o : Out κ W (VR κ) ι vs σ H Q r) : OutF κ ι H Q E r := by
  cases r with
  | ok a M' => exact fun ι' H' v h1 h2 h3 h4 => o ι' H' v h1 h2 ⟨hs.mono h1 h2, h3⟩ h4
  | exc c fs M' => exact fun ι' H' C d h1 h2 h3 h4 => (hW _ _ _).mpr (o ι' H' C d h1 h2 ⟨hs.mono h1 h2, h3⟩ h4)
  | bad => exact o
theorem OutS.ofF {E : XK} {Q : VK} {r : RS} (o : OutF κ ι H Q E (fnEnd r)) : OutS κ (WR E) ι H { nx := fun _ H' => Q .non H', rt := Q } r := by
  cases r with
  | nx vs M => exact fun ι' H' σ' h1 h2 h3 => o ι' H' .non h1 h2 h3.rep (by rw [vr_non])
  | rt a M => exact fun ι' H' v h1 h2 h3 h4 => o ι' H' v h1 h2 h3 h4
  | bk vs M => exact o.elim
  | ct vs M => exact o.elim
  | exc c fs vs M => exact fun ι' H' σ' C d h1 h2 h3 h4 => o ι' H' C d h1 h2 h3.rep h4
  | bad => exact o.elim
end
section
variable [Tb] {P : Program} {w : World} {K : PySem.W.Frag} {mg : Str → Option Value} {base : Heap} {x qual : Str} {params : Arguments} {body : List Stmt} {scope : Scope} {f : Addr} {fd : FuncData} {k n : Nat}
/-- THE RULE for a def -/
theorem fn_ok {N ps : List Str} {c : CS} (F : FunD K x qual params body scope [] [] f fd) (S : FnScope N ps scope) (hn : ps.length = n) {m : Nat} (hN : N.length = m)
    (hb : ∀ (cdv : Value) (A : Around) (outer : List Env) (s : Shared) (H : Hp) (E : XK), cdv = fd.code → Bd (cxOf (L2.CX P w) P w K mg base N qual scope f cdv A outer s H E) (WR E) k →
      EvB (cxOf (L2.CX P w) P w K mg base N qual scope f cdv A outer s H E) (WR E) body c) : FnG ⟨K, mg, P, w, base, Tb.T⟩ (k + 1) f fd ps (spF ⟨K, mg, P, w, base, Tb.T⟩ n (fnRun m c)) := by
  subst hN
  obtain ⟨oc, od, dV, kV, doc, pm, an, cdv, ct, osl, rfl, lk, hcd, _, _⟩ := F.ex
  refine ⟨fun vs H Q E h => h.1.trans hn.symm, fun A outer s H args us vs Q E hr gd e0 hbd r hsp => ?_⟩
  refine LamX.run_ofS lk hcd S hr e0 hbd r (hsp.1.trans hn.symm) fun hr' => ?_
  refine ⟨_, hb cdv A outer s H E rfl ⟨⟨rfl, S.nd, takes_of rfl rfl rfl rfl, hr', gd⟩, passes_of rfl, cb_fn⟩, ?_⟩
  obtain ⟨hl, ι, M, as, rep, hp, o⟩ := hsp
  exact ⟨ι, startL N.length as, M, ⟨SLs.start hp, rep⟩, OutS.ofF o⟩
end

/-! ### calls -/
def callC (n : Nat) (F : List SV → AH → R AV) (r : CA) : CE := fun vs M => (r vs M).bind fun as M1 => if as.length = n then F (as.map .val) M1 else .bad
theorem paired_val {κ : Cfg} {ι : List Addr} {H : Hp} : ∀ {as : List AV} {ws : List V}, VRs κ ι H as ws → Paired (SVR κ ι H) (as.map .val) ws
  | [], ws, h => by rw [h.nil_inv]; exact .nil
  | a :: as, ws, h => by
    obtain ⟨v, us, rfl, r, t⟩ := h.cons_inv
    exact .cons r (paired_val t)
section
variable [Tb] {X : Cx} {W : WX} {e : Expr} {es : List Expr} {pos p : Pos} {r : CA} {x : Str} {k n : Nat} {F : List SV → AH → R AV}
theorem run_fnG {f : Addr} {fd : FuncData} {ps : List Str} {sp : Sp} {pins : List (Addr × Obj)} {σ : L2.St} {H : Hp} {s : Shared} {Q : VK} {us : List Value} {vs : List V} (B : Be X W k) (F : FnG (kf X) k f fd ps sp) (hb : Binds X.K fd ps [])
    (I : Inv X pins σ H s) (r : Vals vs us) (h : sp vs H Q (WE W σ)) : wpAny (model X.prog X.w) X.A (call (.ref f) us) (EP X pins σ Q) X.xe s := by
  have hl : us.length = ps.length := by rw [← r.length]; exact F.len _ _ _ _ h
  have b := hb s us I.kIn (by rw [List.append_nil]; exact hl)
  rw [List.append_nil] at b
  refine wpAny_call (codeAny_mono (F.run X.A X.stack s H ⟨us, []⟩ us vs Q (WE W σ) B.room B.gd I.env0 b r h) fun r s' hq => ?_)
  cases r with
  | error e => exact passAt B.tk σ pins H s e s' I hq
  | ok fl =>
    cases fl with
    | ret u => exact I.after hq
    | next => exact False.elim hq
    | brk => exact False.elim hq
    | cont => exact False.elim hq
theorem call_goal {ι : List Addr} {vs : Loc} {M : AH} {σ : L2.St} {H : Hp} {Q : VK} {as : List AV} {ws : List V} (hr : Rel (kf X) ι vs M σ H) (ha : VRs (kf X) ι H as ws)
    (o : Out (kf X) W (VR (kf X)) ι vs σ H Q (if as.length = n then F (as.map .val) M else .bad)) : spF (kf X) n F ws H Q (WE W σ) := by
  split at o
  · rename_i hl
    exact ⟨by rw [← ha.length]; exact hl, ι, M, _, hr.rep, paired_val ha, OutF.ofOut hr.sl (fun _ _ _ => Iff.rfl) o⟩
  · exact o.elim
theorem ev_call (B : Be X W k) (hk : Kn (kf X) k x n F) (hg : Gl X x) (ha : EvA X W (e :: es) r) (hdb : (x == ("__debug__" : Str)) = false := by decide +kernel)
    (he : starEach (e :: es) X.env = (false, eval e X.env) :: starEach es X.env := by rfl) (hpl : (backTo pos (starEach es X.env)).any (·.1) = false := by rfl) : EvE X W (.Call (.Name x p) (e :: es) [] pos) (callC n F r) := by
  obtain ⟨f, fd, ps, h1, h2, h3, h4⟩ := hk.ex
  refine ⟨fun pins s σ H Q I ⟨ι, vs, M, hr, o⟩ => ?_⟩
  have hq : rdA (kf X) W r σ H fun ws H1 => spF (kf X) n F ws H1 Q (WE W σ) := Out.run hr o fun ι1 as M1 ws H1 g1 g2 g3 g4 g5 => call_goal g3 g4 g5
  refine wpAny_Call_Name_kw (ld_glob I hg h1 ?_ hdb)
  refine PySem.W.callWith_K (h₀ := X.base) I.ok.mod.kin h2 (thn (ha.run pos pins s σ H _ I hq) fun us s1 ⟨ws, H1, I1, r1, q⟩ => ⟨I1.kIn, ?_⟩) he hpl
  exact run_fnG B h3 h4 I1 r1 q
theorem ev_call0 (B : Be X W k) (hk : Kn (kf X) k x n F) (hg : Gl X x) (hdb : (x == ("__debug__" : Str)) = false := by decide +kernel) : EvE X W (.Call (.Name x p) [] [] pos) (callC n F nilA) := by
  obtain ⟨f, fd, ps, h1, h2, h3, h4⟩ := hk.ex
  refine ⟨fun pins s σ H Q I ⟨ι, vs, M, hr, o⟩ => ?_⟩
  refine wpAny_Call_Name_kw (ld_glob I hg h1 ?_ hdb)
  exact PySem.W.callWith_K0 I.kIn h2 (run_fnG (us := []) B h3 h4 I .nil (call_goal (as := []) hr .nil o))
end
end AM
end

section
set_option Elab.async false
set_option linter.all false
set_option autoImplicit false
set_option maxRecDepth 100000
set_option maxHeartbeats 4000000
/-! AM 9: lambdas handed to a def. -/
namespace AM
open PySem PySem.Spec L2

/-! ### a lambda is made -/
theorem OR.ntbl {κ : Cfg} {ι : List Addr} {H : Hp} {o : AO} {a : Addr} (h : OR κ ι H o a) : ∃ u, H a = some u ∧ (∀ ps, u ≠ .tbl ps) ∧ ∀ ob x, u ≠ .frz ob (.own x) := by
  cases o with
  | lst xs => obtain ⟨vs, h1, h2⟩ := h; exact ⟨_, h1, (fun _ z => by cases z), (fun _ _ z => by cases z)⟩
  | frz xs => obtain ⟨o, vs, h1, h2⟩ := h; exact ⟨_, h1, (fun _ z => by cases z), (fun _ _ z => by cases z)⟩
  | ins c fs => obtain ⟨C, dx, gs, h0, h1, h2, h3⟩ := h; exact ⟨_, h1, (fun _ z => by cases z), (fun _ _ z => by cases z)⟩
  | dct kvs =>
    rcases h with ⟨gs, h1, h2⟩ | ⟨ks, h1, h2, hne⟩
    · exact ⟨_, h1, (fun _ z => by cases z), (fun _ _ z => by cases z)⟩
    · exact ⟨_, h1, (fun _ z => by unfold NdO at z; cases z), (fun _ _ z => by unfold NdO at z; cases z)⟩
theorem Rep.keepT {κ : Cfg} {ι : List Addr} {M : AH} {H H' : Hp} (r : Rep κ ι M H) (k : Keep H H') (same : ∀ a u, H a = some u → (∀ ps, u ≠ .tbl ps) → H' a = some u) (tab : ∀ p ∈ κ.T, TabF H' p.1 p.2) : Rep κ ι M H' :=
  ⟨r.len, r.nd, fun i o a e ea => by
    have h := r.obj i o a e ea
    obtain ⟨u, h1, h2, _⟩ := h.ntbl
    exact h.mono (List.prefix_refl _) k (by rw [h1]; exact same a u h1 h2), tab⟩
section
variable {X : Cx} {pins : List (Addr × Obj)} {σ : L2.St} {H : Hp} {s : Shared}
/-- a thing that was known by a fact is known by its object -/
theorem inv_refrz {a : Addr} {φ : Heap → Prop} {o : Obj} (I : Inv X pins σ H s) (ha : H a = some (.ext φ)) (ho : s.heap.get? a = some o) : Inv X pins σ (upd H a (.frz o (.ext φ))) s := by
  have sm : ∀ b u, H b = some u → u ≠ .ext φ → upd H a (.frz o (.ext φ)) b = some u := fun b u e n => by
    rw [upd_ne (fun z => n (Option.some.inj (by rw [← e, z]; exact ha)))]; exact e
  have st := I.step (g' := s.gens) (d' := s.drawn) (t' := s.toks) (h' := s.heap) (H' := upd H a (.frz o (.ext φ))) (ch := []) (fun _ z => nomatch z) (fun b o _ _ _ e _ => e) (fun b o _ _ _ e _ => ⟨o.slots, e⟩) (fun b o _ _ n => by rw [upd_ne (ne_of_none ha n).symm]; exact n) (fun b o _ e => ⟨o, e⟩)
    (fun b xs e => sm b _ e fun z => by cases z) (fun b o u e => sm b _ e fun z => by cases z) (fun b ps e => ⟨#[], by rw [sm b _ e fun z => by cases z]; simp⟩) (fun _ hm => hm) (fun b u e => ?_) I.bare
  · exact st
  · by_cases hb : b = a
    · subst hb
      rw [upd_same] at e
      cases e
      refine ⟨ho, ?_⟩
      exact (I.hok b _ ha).stay (fun _ _ _ q => q) (fun c q => sm c _ q fun z => by cases z) (fun c xs q => sm c _ q fun z => by cases z)
    · rw [upd_ne hb] at e
      exact (I.hok b _ e).stay (fun _ _ _ q => q) (fun c q => sm c _ q fun z => by cases z) (fun c xs q => sm c _ q fun z => by cases z)
end
abbrev lamObj (X : Cx) (params : Arguments) (body : Expr) (scope : Scope) (pm : Value) (c' : Addr) (ctv : Value) : Obj :=
  PySem.W.kla_obj "<lambda>" (X.env.qual ++ "<lambda>") params body scope (cloFrom X.env.cells scope.names []) pm c' ctv
section
variable [Tb] {X : Cx} {pins : List (Addr × Obj)} {σ : L2.St} {H : Hp} {s : Shared} {ι : List Addr} {M : AH}
/-- what the making of a lambda asks -/
def LmOk [Tb] (X : Cx) : Prop := ∃ c P, X.env.code = .ref c ∧ LamX.TabB X.base X.mg c P ∧ (P, X.env.qual ++ "<lambda>") ∈ Tb.T ∧ ∀ p ∈ Tb.T, p.1 = P → p.2 = X.env.qual ++ "<lambda>"
/-- f is a lambda of this text, made here -/
def LamAt (X : Cx) (H : Hp) (params : Arguments) (body : Expr) (scope : Scope) (f : Addr) : Prop :=
  ∃ (pm ctv : Value) (c' : Addr) (oc : Obj), H f = some (.frz (lamObj X params body scope pm c' ctv) (.ext fun _ => True)) ∧ H c' = some (.frz oc (LamX.CodeO c' (X.env.qual ++ "<lambda>")))
theorem lam_make3 {params : Arguments} {body : Expr} {scope : Scope} {pos : Pos} {E : Value → Shared → Prop} {Q : Value → Shared → Prop} (I : Inv X pins σ H s) (rep : Rep (kf X) ι M H) (L : LmOk X)
    (hdef : defaultsOf params X.env = ([], [])) (hfree : ∀ y ∈ scope.names, y.2 = .free → ∃ c, X.env.cells.lookup y.1 = some c)
    (h : ∀ (f : Addr) (H1 : Hp) (s' : Shared), Inv X pins σ H1 s' → Keep H H1 → Rep (kf X) ι M H1 → LamAt X H1 params body scope f → Q (.ref f) s') :
    wpAny (model X.prog X.w) X.A (eval (.Lambda params body scope pos) X.env) Q E s := by
  obtain ⟨c, P, hcode, TB, hm, hu⟩ := L
  obtain ⟨ps, hP, ht, ha⟩ := rep.tab _ hm
  refine PySem.W.kla_eval hdef ?_
  have bP : s.heap.BuiltinsAt X.mg P := TB.bm.keeps I.bk
  have hP' : s.heap.get? P = some { cls := .none, data := .fields ps } := I.hok P _ hP
  have fo : ∀ {H' : Hp} {h' : Heap} {a : Addr} {o : Obj}, h'.get? a = some o → ObjOk X.prog X.w H' h' a (.frz o (.ext fun _ => True)) := fun {H' h' a o} e => ⟨e, True.intro, ⟨o, e⟩, fun _ _ _ _ => True.intro⟩
  cases hc : codeAmong pos ps.toList with
  | none =>
    refine PySem.W.kla_makeFunction (mg := X.mg) (c := c) (P := P) (ps := ps) (closure_ok hfree) I.ok.glob (I.mod.glob.keeps I.bk) hcode (TB.code.keeps I.bk) hP' ht hc TB.gP bP fun c' ctv h' tk hx hge hlt hrec htb => ?_
    obtain ⟨c2, oc, vs, t, e2, hoc, hd, hv⟩ := hrec
    cases e2
    have nC : H c' = none := I.hok.fresh hge
    have I1 := LamX.inv_table (t' := tk) (more := #[rawInt pos.line, rawInt pos.col, .ref c']) (h' := h') I hP (fun b o hb e => hx b o hb e) htb hge ⟨oc, vs, t, hoc, hd, hv⟩
    have I2 := inv_refrz I1 upd_same hoc
    rw [upd_upd] at I2
    have hfN : upd (upd H P (.tbl (ps ++ #[rawInt pos.line, rawInt pos.col, .ref c']))) c' (.frz oc (LamX.CodeO c' (X.env.qual ++ "<lambda>"))) h'.objs.size = none := I2.hok.fresh (Nat.le_refl _)
    have I3 := I2.laid (t' := tk) (h' := h'.push (lamObj X params body scope ((X.mg "__name__").getD .none) c' ctv)) (a := h'.objs.size) (o := .frz (lamObj X params body scope ((X.mg "__name__").getD .none) c' ctv) (.ext fun _ => True))
      (fun b u e => Heap.get?_push_of_some _ e) (Nat.le_refl _) (fo (Heap.get?_push_size _ rfl))
    have n1 : c' ≠ h'.objs.size := Nat.ne_of_lt hlt
    have hPc : P ≠ c' := ne_of_none hP nC
    have hsz : s.heap.objs.size ≤ h'.objs.size := Nat.le_trans hge (Nat.le_of_lt hlt)
    have n2 : P ≠ h'.objs.size := Nat.ne_of_lt (Nat.lt_of_lt_of_le (Heap.lt_size hP') hsz)
    have nF : H h'.objs.size = none := I.hok.fresh hsz
    have same : ∀ a u, H a = some u → (∀ ps, u ≠ .tbl ps) → upd (upd (upd H P (.tbl (ps ++ #[rawInt pos.line, rawInt pos.col, .ref c']))) c' (.frz oc (LamX.CodeO c' (X.env.qual ++ "<lambda>")))) h'.objs.size (.frz (lamObj X params body scope ((X.mg "__name__").getD .none) c' ctv) (.ext fun _ => True)) a = some u := fun a u e n => by
      rw [upd_ne (ne_of_none e nF), upd_ne (ne_of_none e nC), upd_ne (fun z => n ps (Option.some.inj (e.symm.trans (by rw [z]; exact hP))))]; exact e
    have atF : upd (upd (upd H P (.tbl (ps ++ #[rawInt pos.line, rawInt pos.col, .ref c']))) c' (.frz oc (LamX.CodeO c' (X.env.qual ++ "<lambda>")))) h'.objs.size (.frz (lamObj X params body scope ((X.mg "__name__").getD .none) c' ctv) (.ext fun _ => True)) c' = some (.frz oc (LamX.CodeO c' (X.env.qual ++ "<lambda>"))) := by rw [upd_ne n1, upd_same]
    have atP : upd (upd (upd H P (.tbl (ps ++ #[rawInt pos.line, rawInt pos.col, .ref c']))) c' (.frz oc (LamX.CodeO c' (X.env.qual ++ "<lambda>")))) h'.objs.size (.frz (lamObj X params body scope ((X.mg "__name__").getD .none) c' ctv) (.ext fun _ => True)) P = some (.tbl (ps ++ #[rawInt pos.line, rawInt pos.col, .ref c'])) := by rw [upd_ne n2, upd_ne hPc, upd_same]
    have kp : Keep H (upd (upd (upd H P (.tbl (ps ++ #[rawInt pos.line, rawInt pos.col, .ref c']))) c' (.frz oc (LamX.CodeO c' (X.env.qual ++ "<lambda>")))) h'.objs.size (.frz (lamObj X params body scope ((X.mg "__name__").getD .none) c' ctv) (.ext fun _ => True))) :=
      ⟨fun a xs e => same a _ e (fun _ z => by cases z), fun a o u e => same a _ e (fun _ z => by cases z)⟩
    have eL : (ps ++ #[rawInt pos.line, rawInt pos.col, .ref c']).toList = ps.toList ++ [rawInt pos.line, rawInt pos.col, .ref c'] := by simp
    refine h h'.objs.size _ _ I3 kp (rep.keepT kp same fun p hp => ?_) ⟨_, ctv, c', oc, upd_same, atF⟩
    by_cases hb : p.1 = P
    · rw [hu p hp hb, hb]
      refine ⟨_, atP, by rw [eL]; exact PySem.TriplesOk_snoc _ _ _ _ ht, fun p' cv hcv => ?_⟩
      rw [eL] at hcv
      rcases LamX.among_app _ ht hcv with z | z
      · obtain ⟨c0, o0, e1, e2⟩ := ha p' cv z
        exact ⟨c0, o0, e1, kp.frz _ _ _ e2⟩
      · exact ⟨c', oc, z, atF⟩
    · obtain ⟨ps', a1, a2, a3⟩ := rep.tab p hp
      refine ⟨ps', ?_, a2, fun p' cv hcv => ?_⟩
      · rw [upd_ne (ne_of_none a1 nF), upd_ne (ne_of_none a1 nC), upd_ne hb]; exact a1
      · obtain ⟨c0, o0, e1, e2⟩ := a3 p' cv hcv
        exact ⟨c0, o0, e1, kp.frz _ _ _ e2⟩
  | some cv =>
    obtain ⟨c', oc, e, hco⟩ := ha pos cv hc
    subst e
    refine PySem.W.kla_makeFunctionHit (mg := X.mg) (c := c) (P := P) (ps := ps) (closure_ok hfree) I.ok.glob (I.mod.glob.keeps I.bk) hcode (TB.code.keeps I.bk) hP' ht hc bP fun ctv h' tk hx hsz => ?_
    have I1 : Inv X pins σ H { s with heap := h', toks := tk } := I.kept fun b o e => hx b o e
    have nF : H h'.objs.size = none := I1.hok.fresh (Nat.le_refl _)
    have I3 := I1.laid (t' := tk) (h' := h'.push (lamObj X params body scope ((X.mg "__name__").getD .none) c' ctv)) (a := h'.objs.size) (o := .frz (lamObj X params body scope ((X.mg "__name__").getD .none) c' ctv) (.ext fun _ => True))
      (fun b u e => Heap.get?_push_of_some _ e) (Nat.le_refl _) (fo (Heap.get?_push_size _ rfl))
    have kp : Keep H (upd H h'.objs.size (.frz (lamObj X params body scope ((X.mg "__name__").getD .none) c' ctv) (.ext fun _ => True))) := Keep.new nF
    exact h h'.objs.size _ _ I3 kp (rep.other nF) ⟨_, ctv, c', oc, upd_same, kp.frz _ _ _ hco⟩
end
end AM
end

section
set_option Elab.async false
set_option linter.all false
set_option autoImplicit false
set_option maxRecDepth 100000
set_option maxHeartbeats 4000000
/-! AM 10: a handed lambda runs. -/
namespace AM
open PySem PySem.Spec L2

/-! ### frozen cells -/
mutual
theorem VR.monoS {κ : Cfg} {ι ι' : List Addr} {H H' : Hp} (hι : ι <+: ι') (k : ∀ a xs, SqT κ.K H a xs → SqT κ.K H' a xs) : ∀ {a : AV} {v : V}, VR κ ι H a v → VR κ ι' H' a v
  | .non, v, h => by rw [VR] at h ⊢; exact h
  | .bl b, v, h => by rw [VR] at h ⊢; exact h
  | .int i, v, h => by rw [VR] at h ⊢; exact h
  | .str s, v, h => by rw [VR] at h ⊢; exact h
  | .ref i, v, h => by
    rw [VR] at h ⊢
    obtain ⟨a, e, r⟩ := h
    exact ⟨a, pre_get hι e, r⟩
  | .glo x, v, h => by rw [VR] at h ⊢; exact h
  | .ty n, v, h => by rw [VR] at h ⊢; exact h
  | .tup xs, v, h => by
    rw [VR] at h ⊢
    obtain ⟨a, vs, e, q, r⟩ := h
    exact ⟨a, vs, e, k _ _ q, VRs.monoS hι k r⟩
theorem VRs.monoS {κ : Cfg} {ι ι' : List Addr} {H H' : Hp} (hι : ι <+: ι') (k : ∀ a xs, SqT κ.K H a xs → SqT κ.K H' a xs) : ∀ {xs : List AV} {vs : List V}, VRs κ ι H xs vs → VRs κ ι' H' xs vs
  | [], vs, h => by rw [VRs] at h ⊢; exact h
  | x :: xs, vs, h => by
    rw [VRs] at h ⊢
    obtain ⟨v, ws, e, r, q⟩ := h
    exact ⟨v, ws, e, VR.monoS hι k r, VRs.monoS hι k q⟩
end
theorem OR.monoS {κ : Cfg} {ι ι' : List Addr} {H H' : Hp} (hι : ι <+: ι') (k : ∀ a xs, SqT κ.K H a xs → SqT κ.K H' a xs) {o : AO} {a : Addr} (e : H' a = H a) (h : OR κ ι H o a) : OR κ ι' H' o a := by
  cases o with
  | lst xs => obtain ⟨vs, h1, h2⟩ := h; exact ⟨vs, by rw [e]; exact h1, h2.monoS hι k⟩
  | frz xs => obtain ⟨o, vs, h1, h2⟩ := h; exact ⟨o, vs, by rw [e]; exact h1, h2.monoS hι k⟩
  | ins c fs => obtain ⟨C, dx, gs, h0, h1, h2, h3⟩ := h; exact ⟨C, dx, gs, h0, by rw [e]; exact h1, h2, h3.monoS hι k⟩
  | dct kvs =>
    rcases h with ⟨gs, h1, h2⟩ | ⟨ks, h1, h2, hne⟩
    · exact .inl ⟨gs, by rw [e]; exact h1, Paired.mapP h2 fun p q r => ⟨r.1, r.2.monoS hι k⟩⟩
    · exact .inr ⟨ks, by rw [e]; exact h1, Paired.mapP h2 fun p q r => ⟨r.1, r.2.1.monoS hι k, r.2.2.1, r.2.2.2.monoS hι k⟩, hne⟩
/-- G at cs, H elsewhere -/
def rf (cs : List Addr) (G H : Hp) : Hp := fun a => if a ∈ cs then G a else H a
theorem rf_in {cs : List Addr} {G H : Hp} {a : Addr} (h : a ∈ cs) : rf cs G H a = G a := if_pos h
theorem rf_out {cs : List Addr} {G H : Hp} {a : Addr} (h : a ∉ cs) : rf cs G H a = H a := if_neg h
abbrev unf (cs : List Addr) (H : Hp) : Hp := rf cs (fun _ => none) H
def Fz (cs : List Addr) (H : Hp) : Prop := ∀ c ∈ cs, ∃ o, H c = some (.frz o (.own 0))
section
variable {κ : Cfg} {ι : List Addr} {M : AH} {H G : Hp} {cs : List Addr} {P : Program} {w : World} {h : Heap}
theorem Fz.out (f : Fz cs H) {a : Addr} {u : HO} (e : H a = some u) (n : ∀ ob, u ≠ .frz ob (.own 0)) : a ∉ cs := fun hm => by
  obtain ⟨o, q⟩ := f a hm
  exact n o (Option.some.inj (e.symm.trans q))
theorem Fz.sq (f : Fz cs H) : ∀ a xs, SqT κ.K H a xs → SqT κ.K (unf cs H) a xs := fun a xs q => by
  rcases q with (q | ⟨o, q⟩) | q
  · exact .inl (.inl ((rf_out (f.out q fun _ z => by cases z)).trans q))
  · exact .inl (.inr ⟨o, (rf_out (f.out q fun _ z => by cases z)).trans q⟩)
  · exact .inr q
theorem Rep.unf (r : Rep κ ι M H) (f : Fz cs H) : Rep κ ι M (AM.unf cs H) := by
  refine ⟨r.len, r.nd, fun i o a e ea => ?_, fun p hp => ?_⟩
  · have q := r.obj i o a e ea
    obtain ⟨u, h1, _, h3⟩ := q.ntbl
    exact q.monoS (List.prefix_refl _) f.sq (rf_out (f.out h1 fun ob => h3 ob 0))
  · obtain ⟨ps, a1, a2, a3⟩ := r.tab p hp
    refine ⟨ps, (rf_out (f.out a1 fun _ z => by cases z)).trans a1, a2, fun pos cv hc => ?_⟩
    obtain ⟨c, o, e1, e2⟩ := a3 pos cv hc
    exact ⟨c, o, e1, (rf_out (f.out e2 fun _ z => by unfold LamX.CodeO at z; cases z)).trans e2⟩
theorem rf_keep (n : ∀ c ∈ cs, H c = none) : Keep H (rf cs G H) :=
  ⟨fun a xs e => (rf_out fun hm => by rw [n a hm] at e; cases e).trans e, fun a o u e => (rf_out fun hm => by rw [n a hm] at e; cases e).trans e⟩
theorem rf_same (n : ∀ c ∈ cs, H c = none) : ∀ a u, H a = some u → rf cs G H a = H a := fun a u e => rf_out fun hm => by rw [n a hm] at e; cases e
theorem Rep.rf (r : Rep κ ι M H) (n : ∀ c ∈ cs, H c = none) : Rep κ ι M (AM.rf cs G H) := r.keep (rf_keep n) (rf_same n)
theorem ObjOk.rfs {a : Addr} {o : HO} {H' : Hp} (x : ObjOk P w H h a o) (e : ∀ b u, H b = some u → (∀ ob, u ≠ .frz ob (.own 0)) → H' b = some u) : ObjOk P w H' h a o :=
  x.stay (fun _ _ _ q => q) (fun b q => e b _ q fun _ z => by cases z) (fun b xs q => e b _ q fun _ z => by cases z)
theorem HOk.unf (x : HOk P w H h) (f : Fz cs H) : HOk P w (AM.unf cs H) h := fun a o e => by
  have e : AM.rf cs (fun _ => none) H a = some o := e
  by_cases hm : a ∈ cs
  · rw [rf_in hm] at e; cases e
  · rw [rf_out hm] at e
    exact ObjOk.rfs (x a o e) fun b u q n => (rf_out (f.out q n)).trans q
theorem HOk.rf (x : HOk P w H h) (n : ∀ c ∈ cs, H c = none) (g : ∀ c ∈ cs, ∃ o, G c = some (.frz o (.own 0)) ∧ h.get? c = some o) : HOk P w (AM.rf cs G H) h := fun a o e => by
  by_cases hm : a ∈ cs
  · rw [rf_in hm] at e
    obtain ⟨ob, e1, e2⟩ := g a hm
    rw [e1] at e; cases e
    exact ⟨e2, ob, e2⟩
  · rw [rf_out hm] at e
    exact ObjOk.rfs (x a o e) fun b u q _ => (rf_same n b u q).trans q
end
/-! a state of the callee's with frozen cells, told without them; and back -/
section
variable {fs : List Addr} {H H' G : Hp} {h h' : Heap} {cs : List Addr} {P : Program} {w : World}
/-- thawed behind a run from a frozen heap -/
theorem Un.thaw (u : Un fs [] (rf cs G H) H' h h') (hk : HOk P w H' h') (n : ∀ c ∈ cs, H c = none) (g : ∀ c ∈ cs, ∃ o, G c = some (.frz o (.own 0)) ∧ h.get? c = some o) : Un fs [] H (unf cs H') h h' := by
  have fr : ∀ c ∈ cs, ∃ o, H' c = some (.frz o (.own 0)) ∧ h.get? c = some o ∧ h'.get? c = some o := fun c hc => by
    obtain ⟨o, e1, e2⟩ := g c hc
    have q := u.frzs c o _ ((rf_in hc).trans e1)
    exact ⟨o, q, e2, (hk c _ q).1⟩
  refine ⟨fun b o e z hb hx => ?_, fun b o e z hb hx => ?_, fun b o e z hx => ?_, u.there, fun b xs e => ?_, fun b o x e => ?_, fun b ps e => ?_⟩
  · by_cases hm : b ∈ cs
    · obtain ⟨o', q1, q2, q3⟩ := fr b hm
      rw [e] at q2; cases q2; exact q3
    · exact u.keep b o e ((rf_out hm).trans z) hb hx
  · by_cases hm : b ∈ cs
    · obtain ⟨o', q1, q2, q3⟩ := fr b hm
      rw [e] at q2; cases q2; exact ⟨o.slots, q3⟩
    · exact u.slot b o e ((rf_out hm).trans z) hb hx
  · by_cases hm : b ∈ cs
    · exact rf_in hm
    · exact (rf_out hm).trans (u.free b o e ((rf_out hm).trans z) hx)
  · have hm : b ∉ cs := fun hm => by rw [n b hm] at e; cases e
    exact (rf_out hm).trans (u.tups b xs ((rf_out hm).trans e))
  · have hm : b ∉ cs := fun hm => by rw [n b hm] at e; cases e
    exact (rf_out hm).trans (u.frzs b o x ((rf_out hm).trans e))
  · have hm : b ∉ cs := fun hm => by rw [n b hm] at e; cases e
    obtain ⟨more, q⟩ := u.tbls b ps ((rf_out hm).trans e)
    exact ⟨more, (rf_out hm).trans q⟩
/-- frozen again behind a run from a thawed heap -/
theorem Un.chill (u : Un fs [] (unf cs H) H' h h') (n : ∀ c ∈ cs, H' c = none) : Un fs [] H (rf cs H H') h h' := by
  refine ⟨fun b o e z hb hx => ?_, fun b o e z hb hx => ?_, fun b o e z hx => ?_, u.there, fun b xs e => ?_, fun b o x e => ?_, fun b ps e => ?_⟩
  · refine u.keep b o e ?_ hb hx
    by_cases hm : b ∈ cs
    · exact rf_in hm
    · exact (rf_out hm).trans z
  · refine u.slot b o e ?_ hb hx
    by_cases hm : b ∈ cs
    · exact rf_in hm
    · exact (rf_out hm).trans z
  · by_cases hm : b ∈ cs
    · exact (rf_in hm).trans z
    · exact (rf_out hm).trans (u.free b o e ((rf_out hm).trans z) hx)
  · by_cases hm : b ∈ cs
    · exact (rf_in hm).trans e
    · exact (rf_out hm).trans (u.tups b xs ((rf_out hm).trans e))
  · by_cases hm : b ∈ cs
    · exact (rf_in hm).trans e
    · exact (rf_out hm).trans (u.frzs b o x ((rf_out hm).trans e))
  · by_cases hm : b ∈ cs
    · exact ⟨#[], by rw [rf_in hm, e]; simp⟩
    · obtain ⟨more, q⟩ := u.tbls b ps ((rf_out hm).trans e)
      exact ⟨more, (rf_out hm).trans q⟩
variable {B : Heap}
theorem UB.thaw (u : UB fs (rf cs G H) H' h B h') (hk : HOk P w H' B) (n : ∀ c ∈ cs, H c = none) (g : ∀ c ∈ cs, ∃ o, G c = some (.frz o (.own 0)) ∧ h.get? c = some o) (st : B.StaysIn h') : UB fs H (unf cs H') h B h' := by
  have fr : ∀ c ∈ cs, ∃ o, H' c = some (.frz o (.own 0)) ∧ h.get? c = some o ∧ B.get? c = some o := fun c hc => by
    obtain ⟨o, e1, e2⟩ := g c hc
    have q := u.frzs c o _ ((rf_in hc).trans e1)
    exact ⟨o, q, e2, (hk c _ q).1⟩
  refine ⟨fun b o e z hb => ?_, u.slot, fun b o e z => ?_, u.there, fun b xs e => ?_, fun b o x e => ?_, fun b ps e => ?_⟩
  · by_cases hm : b ∈ cs
    · obtain ⟨o', q1, q2, q3⟩ := fr b hm
      rw [e] at q2; cases q2; exact q3
    · exact u.keep b o e ((rf_out hm).trans z) hb
  · by_cases hm : b ∈ cs
    · exact rf_in hm
    · exact (rf_out hm).trans (u.free b o e ((rf_out hm).trans z))
  · have hm : b ∉ cs := fun hm => by rw [n b hm] at e; cases e
    exact (rf_out hm).trans (u.tups b xs ((rf_out hm).trans e))
  · have hm : b ∉ cs := fun hm => by rw [n b hm] at e; cases e
    exact (rf_out hm).trans (u.frzs b o x ((rf_out hm).trans e))
  · have hm : b ∉ cs := fun hm => by rw [n b hm] at e; cases e
    obtain ⟨more, q⟩ := u.tbls b ps ((rf_out hm).trans e)
    exact ⟨more, (rf_out hm).trans q⟩
theorem UB.chill (u : UB fs (unf cs H) H' h B h') (n : ∀ c ∈ cs, H' c = none) : UB fs H (rf cs H H') h B h' := by
  refine ⟨fun b o e z hb => ?_, u.slot, fun b o e z => ?_, u.there, fun b xs e => ?_, fun b o x e => ?_, fun b ps e => ?_⟩
  · refine u.keep b o e ?_ hb
    by_cases hm : b ∈ cs
    · exact rf_in hm
    · exact (rf_out hm).trans z
  · by_cases hm : b ∈ cs
    · exact (rf_in hm).trans z
    · exact (rf_out hm).trans (u.free b o e ((rf_out hm).trans z))
  · by_cases hm : b ∈ cs
    · exact (rf_in hm).trans e
    · exact (rf_out hm).trans (u.tups b xs ((rf_out hm).trans e))
  · by_cases hm : b ∈ cs
    · exact (rf_in hm).trans e
    · exact (rf_out hm).trans (u.frzs b o x ((rf_out hm).trans e))
  · by_cases hm : b ∈ cs
    · exact ⟨#[], by rw [rf_in hm, e]; simp⟩
    · obtain ⟨more, q⟩ := u.tbls b ps ((rf_out hm).trans e)
      exact ⟨more, (rf_out hm).trans q⟩
end
end AM
end

section
set_option Elab.async false
set_option linter.all false
set_option autoImplicit false
set_option maxRecDepth 100000
set_option maxHeartbeats 4000000
/-! AM 11: what a handed lambda computes. -/
namespace AM
open PySem PySem.Spec L2

/-- a lambda's names: parameters ps, captured ones fr -/
structure LamP (sc scope : Scope) (ps fr : List Str) : Prop where
  kind : scope.kind = .function
  co : scope.isCoroutine = false
  gen : scope.isGenerator = false
  nocell : ∀ y ∈ scope.names, y.2 ≠ .cell
  free : ∀ y ∈ scope.names, y.2 = .free → sc.names.lookup y.1 = some .cell ∨ sc.names.lookup y.1 = some .free
  par : ∀ x ∈ ps, scope.names.lookup x = some .local
  nd : (ps ++ fr).Nodup
  fre : ∀ x ∈ fr, scope.names.lookup x = some .free
def lamPB (sc scope : Scope) (ps fr : List Str) : Bool :=
  decide (scope.kind = .function) && !scope.isCoroutine && !scope.isGenerator && (scope.names.all fun y => !decide (y.2 = .cell) && (!decide (y.2 = .free) || decide (sc.names.lookup y.1 = some .cell) || decide (sc.names.lookup y.1 = some .free))) &&
    (ps.all fun x => decide (scope.names.lookup x = some .local)) && decide ((ps ++ fr).Nodup) && fr.all fun x => decide (scope.names.lookup x = some .free)
theorem lamP_by {sc scope : Scope} {ps fr : List Str} (h : lamPB sc scope ps fr = true) : LamP sc scope ps fr := by
  unfold lamPB at h
  simp only [Bool.and_eq_true, Bool.or_eq_true, Bool.not_eq_true', decide_eq_true_eq, decide_eq_false_iff_not, List.all_eq_true] at h
  obtain ⟨⟨⟨⟨⟨⟨h1, h2⟩, h3⟩, h4⟩, h5⟩, h6⟩, h7⟩ := h
  refine ⟨h1, h2, h3, fun y hy => (h4 y hy).1, fun y hy e => ?_, h5, h6, h7⟩
  rcases (h4 y hy).2 with (z | z) | z
  · exact absurd e z
  · exact .inl z
  · exact .inr z
theorem LamP.has {X : Cx} {scope : Scope} {ps fr : List Str} (L : LamP X.env.scope scope ps fr) (ok : X.Ok) : ∀ y ∈ scope.names, y.2 = .free → ∃ c, X.env.cells.lookup y.1 = some c := fun y hy e => by
  rcases L.free y hy e with k | k
  · exact ok.has _ (.inl k)
  · exact ok.has _ (.inr k)
/-- the context of the lambda's body, entered at s from the frames outer -/
def lamCxP (X : Cx) (N : List Str) (A : Around) (outer : List Env) (s : Shared) (H : Hp) (E : XK) (scope : Scope) (f c' : Addr) : Cx where
  prog := X.prog
  w := X.w
  K := X.K
  mg := X.mg
  base := X.base
  A := A.deeper (LamX.lamEnv X scope s.heap.objs.size f c')
  N := N
  s_0 := s
  H_0 := H
  env := LamX.lamEnv X scope s.heap.objs.size f c'
  outer := outer
  stack := LamX.lamEnv X scope s.heap.objs.size f c' :: outer
  ex := []
  fn := fun _ => false
  calm := true
  pn := []
  xe := fun e s' => wpAny (model X.prog X.w) (A.deeper (LamX.lamEnv X scope s.heap.objs.size f c')) (leaving (LamX.lamEnv X scope s.heap.objs.size f c') e) (fun _ s'' => L2.CX X.prog X.w outer H s E e s'') (fun e' s'' => L2.CX X.prog X.w outer H s E e' s'') s'
theorem rz_lookup {ps : List Str} {us : List Value} {i : Nat} {x : Str} {u : Value} (nd : ps.Nodup) (hl : us.length = ps.length) (e1 : ps[i]? = some x) (e2 : us[i]? = some u) : (ps.zip us).reverse.lookup x = some u := by
  have hm : (x, u) ∈ (ps.zip us).reverse := by
    rw [List.mem_reverse]
    refine List.mem_of_getElem? (i := i) ?_
    rw [List.getElem?_zip_eq_some]
    exact ⟨e1, e2⟩
  have hn : ((ps.zip us).reverse.map (·.1)).Nodup := by
    rw [List.map_reverse, List.map_fst_zip (by omega)]
    exact (List.reverse_perm ps).nodup_iff.mpr nd
  generalize (ps.zip us).reverse = l at hm hn
  induction l with
  | nil => cases hm
  | cons p l ih =>
    obtain ⟨y, v⟩ := p
    rw [List.map_cons, List.nodup_cons] at hn
    rw [List.lookup_cons]
    rcases List.mem_cons.mp hm with e | hm2
    · cases e; simp
    · have : (x == y) = false := by
        rw [beq_eq_false_iff_ne]
        intro z; subst z
        exact hn.1 (List.mem_map.mpr ⟨_, hm2, rfl⟩)
      rw [this]
      exact ih hm2 hn.2
/-- the slots of a lambda's body -/
def lamL {α : Type} (js : List Nat) (vs : List (Option α)) (as : List α) : List (Option α) := as.map some ++ js.map fun j => (vs[j]?).join
/-- what the lambda computes: n parameters, captured slots js of vs -/
def lamF (n : Nat) (js : List Nat) (vs : Loc) (c : CE) : List AV → AH → R AV := fun as M => if as.length = n then c (lamL js vs (as.map .val)) M else .bad
section
variable {X : Cx} {pins : List (Addr × Obj)} {σ : L2.St} {H H1 : Hp} {s s1 : Shared} {scope : Scope} {ps fr : List Str} {js : List Nat}
theorem clo_cell (I : Inv X pins σ H s) (L : LamP X.env.scope scope ps fr) {y : Str} {c : Addr} (e : (cloFrom X.env.cells scope.names []).lookup y = some c) : X.env.cells.lookup y = some c := by
  rcases cloFrom_mem (PySem.mem_of_lookup e) with hm | ⟨h1, h2⟩
  · cases hm
  · obtain ⟨c1, hc⟩ := L.has I.ok _ h1 rfl
    have hc : X.env.cells.lookup y = some c1 := hc
    have e2 : c = c1 := by
      rw [h2, hc] <;> rfl
    rw [e2]
    exact hc
/-- the lambda's entry -/
theorem lam_startP {cs : List Addr} {A : Around} {outer : List Env} {E : XK} {f c' : Addr} {h₁ : Heap} {tk : Nat} {us : List Value} {ws : List V} (I : Inv X pins σ H s) (cin : ∀ {y : Str} {c : Addr}, X.env.cells.lookup y = some c → c ∈ cs) (L : LamP X.env.scope scope ps fr) (hjs : ∀ (i : Nat) (x : Str), fr[i]? = some x → ∃ j, js[i]? = some j ∧ X.N[j]? = some x) (hjl : js.length = fr.length)
    (e0 : Env0 X.prog X.w X.K X.mg X.base A outer s1 H1) (hd : A.handled = none)
    (fz : ∀ c ∈ cs, ∃ o, H1 c = some (.frz o (.own 0)) ∧ s.heap.get? c = some o) (hl : us.length = ps.length) (hv : Vals ws us)
    (hns : h₁.Ns s1.heap.objs.size fun y => (ps.zip us).reverse.lookup y) (kp : ∀ b o, s1.heap.get? b = some o → h₁.get? b = some o) :
    Inv (lamCxP X (ps ++ fr) A outer s1 (unf cs H1) E scope f c') [] (lamL js σ ws) (unf cs H1) { s1 with heap := h₁, toks := tk } := by
  have cm := fun {y c} => clo_cell (y := y) (c := c) I L
  have Fz0 : Fz cs H1 := fun c hc => let ⟨o, e1, _⟩ := fz c hc; ⟨o, e1⟩
  have look : ∀ {y}, scope.names.lookup y = some .free → ∃ c, (cloFrom X.env.cells scope.names []).lookup y = some c := fun {y} hl => by
    have hy : (y, NameKind.free) ∈ scope.names := PySem.mem_of_lookup hl
    exact mem_lookup (cloFrom_has (cells := X.env.cells) (acc := []) hy)
  have cellK : ∀ {y : Str} {c : Addr} {v : Option Value}, X.env.cells.lookup y = some c → s.heap.IsCell c v → h₁.IsCell c v := fun {y c v} e ⟨o, ho, hdt⟩ => by
    obtain ⟨o', e1, e2⟩ := fz c (cin e)
    rw [ho] at e2; cases e2
    exact ⟨o, kp _ _ (e0.hok c _ e1).1, hdt⟩
  have noA : ∀ b : Addr, b ∉ (lamCxP X (ps ++ fr) A outer s1 (unf cs H1) E scope f c').ex := fun b z => absurd (show b ∈ ([] : List Addr) from z) (by simp)
  have un0 : ∀ {b : Addr}, H1 b = none → unf cs H1 b = none := fun {b} n => by
    by_cases hm : b ∈ cs
    · exact rf_in hm
    · exact (rf_out hm).trans n
  have hok : HOk X.prog X.w (unf cs H1) s1.heap := HOk.unf e0.hok Fz0
  refine ⟨⟨e0.mod, L.kind, rfl, rfl, Nat.le_refl _, fun y z c e1 e2 => I.ok.inj y z c (cm e1) (cm e2), fun y hy => ?_, fun y c z _ => ?_, fun _ => hd, Around.frames_deeper e0.frames, .inr ⟨rfl, rfl⟩, fun b z => absurd z (noA b), fun b o e => ⟨(e0.bs b o e).1, un0 (e0.bs b o e).2⟩, e0.bsz, fun b _ _ => noA b,
      fun b z => absurd z (noA b), e0.funs, fun b hb => un0 (e0.frf b hb)⟩,
    rfl, e0.bare, Un.kept kp, ⟨_, hns, fun i y v e1 e2 e3 => ?_⟩, fun y c e => ?_, un0 (e0.hok.fresh (Nat.le_refl _)), fun y c e => rf_in (cin (cm e)), fun q hq => absurd (show q ∈ ([] : List (Addr × Obj)) ++ [] from hq) (by simp), hok.kept kp, ?_⟩
  · have hy : scope.names.lookup y = some .cell ∨ scope.names.lookup y = some .free := hy
    rcases hy with hy | hy
    · exact absurd rfl (L.nocell _ (PySem.mem_of_lookup hy))
    · exact look hy
  · have z : false = true := z
    cases z
  · have e1 : (ps ++ fr)[i]? = some y := e1
    have e2 : (lamL js σ ws)[i]? = some (some v) := e2
    have hwl : ws.length = ps.length := (Paired.length hv).trans hl
    unfold lamL at e2
    by_cases hi : i < ps.length
    · rw [List.getElem?_append_left hi] at e1
      rw [List.getElem?_append_left (by simp [hwl]; exact hi), List.getElem?_map] at e2
      have e2' : ws[i]? = some v := by
        cases q : ws[i]? with
        | none => rw [q] at e2; cases e2
        | some v' => rw [q] at e2; cases e2; rfl
      obtain ⟨u, hu, rv⟩ := hv.get e2'
      exact ⟨u, rv, .inl ⟨L.par y (List.mem_of_getElem? e1), rz_lookup (List.nodup_append.mp L.nd).1 hl e1 hu⟩⟩
    · rw [List.getElem?_append_right (by omega)] at e1
      rw [List.getElem?_append_right (by simp [hwl]; omega), List.getElem?_map, List.length_map, hwl] at e2
      obtain ⟨j, q1, q2⟩ := hjs _ _ e1
      rw [q1] at e2
      have k : scope.names.lookup y = some .free := L.fre y (List.mem_of_getElem? e1)
      have e2' : σ[j]? = some (some v) := by
        cases q : σ[j]? with
        | none => rw [Option.map_some, q] at e2; simp at e2
        | some o =>
          rw [Option.map_some, q] at e2
          simp at e2
          rw [e2]
      obtain ⟨m, hn, hlk⟩ := I.loc
      have hvis : Vis X.env.scope y := (L.free _ (PySem.mem_of_lookup k) rfl).elim (fun k => .inr (.inl k)) (fun k => .inr (.inr k))
      obtain ⟨w', r, q⟩ := hlk j y v q2 e2' hvis
      obtain ⟨c2, h2⟩ := look k
      refine ⟨w', r, .inr ⟨.inr k, c2, h2, ?_⟩⟩
      have c1 := cm h2
      rcases q with ⟨k', _⟩ | ⟨_, c3, e', z⟩
      · have k' : X.env.scope.names.lookup y = some .local := k'
        rcases L.free _ (PySem.mem_of_lookup k) rfl with k2 | k2 <;> rw [show X.env.scope.names.lookup y = _ from k2] at k' <;> cases k'
      · rw [c1] at e'
        cases e'
        exact cellK c1 z
  · obtain ⟨w', z⟩ := I.cell y c (cm e)
    exact ⟨w', cellK (cm e) z⟩
  · show (lamL js σ ws).length = (ps ++ fr).length
    unfold lamL
    have hwl : ws.length = ps.length := (Paired.length hv).trans hl
    simp [hwl, hjl]
/-- behind the lambda: an exception -/
theorem cx_chill {P : Program} {w : World} {outer : List Env} {cs : List Addr} {H1 : Hp} {s1 s2 : Shared} {E : XK} {e : Value} (fz : ∀ c ∈ cs, ∃ o, H1 c = some (.frz o (.own 0)) ∧ s1.heap.get? c = some o) (nf : ∀ c ∈ cs, c ∉ frs outer)
    (z : L2.CX P w outer (unf cs H1) s1 (fun cls d H' => (∀ c ∈ cs, H' c = none) → E cls d (rf cs H1 H')) e s2) : L2.CX P w outer H1 s1 E e s2 := by
  obtain ⟨a, B, H', cls, d, rfl, fl, hok, ub, na, os, ag, hE⟩ := z
  have n : ∀ c ∈ cs, H' c = none := fun c hc => let ⟨o, _, e2⟩ := fz c hc; ub.free c o e2 (rf_in hc)
  have g : ∀ c ∈ cs, ∃ o, H1 c = some (.frz o (.own 0)) ∧ B.get? c = some o := fun c hc => let ⟨o, e1, e2⟩ := fz c hc; ⟨o, e1, ub.keep c o e2 (rf_in hc) (nf c hc)⟩
  refine ⟨a, B, rf cs H1 H', cls, d, rfl, fl, HOk.rf hok n g, UB.chill ub n, ?_, os, ag, hE n⟩
  by_cases hm : a ∈ cs
  · obtain ⟨o, _, e2⟩ := g a hm
    have := fl.2.1
    rw [e2] at this; cases this
  · exact (rf_out hm).trans na
/-- behind a call with frozen cells: an exception -/
theorem cx_thaw {P : Program} {w : World} {outer : List Env} {cs : List Addr} {H G : Hp} {s1 s2 : Shared} {E : XK} {e : Value} (n : ∀ c ∈ cs, H c = none) (g : ∀ c ∈ cs, ∃ o, G c = some (.frz o (.own 0)) ∧ s1.heap.get? c = some o)
    (z : L2.CX P w outer (rf cs G H) s1 (fun cls d H' => E cls d (unf cs H')) e s2) : L2.CX P w outer H s1 E e s2 := by
  obtain ⟨a, B, H', cls, d, rfl, fl, hok, ub, na, os, ag, hE⟩ := z
  have f : Fz cs H' := fun c hc => let ⟨o, e1, _⟩ := g c hc; ⟨o, ub.frzs c o _ ((rf_in hc).trans e1)⟩
  refine ⟨a, B, unf cs H', cls, d, rfl, fl, HOk.unf hok f, UB.thaw ub hok n g fl.1, ?_, os, ag, hE⟩
  by_cases hm : a ∈ cs
  · exact rf_in hm
  · exact (rf_out hm).trans na
end
abbrev cellsOf (X : Cx) : List Addr := X.env.cells.filterMap fun p => X.env.cells.lookup p.1
theorem cells_in {X : Cx} {y : Str} {c : Addr} (e : X.env.cells.lookup y = some c) : c ∈ cellsOf X := List.mem_filterMap.mpr ⟨(y, c), PySem.mem_of_lookup e, e⟩
theorem cells_ex {X : Cx} {c : Addr} (h : c ∈ cellsOf X) : ∃ y, X.env.cells.lookup y = some c := let ⟨p, _, e⟩ := List.mem_filterMap.mp h; ⟨p.1, e⟩
abbrev frzOf (h : Heap) : Hp := fun a => (h.get? a).map fun o => .frz o (.own 0)
section
variable [Tb] {X : Cx} {pins : List (Addr × Obj)} {σ : L2.St} {H : Hp} {s : Shared} {scope : Scope} {ps fr : List Str} {js : List Nat} {ι : List Addr} {vs : Loc} {M : AH} {f : Addr} {params : Arguments} {body : Expr} {k : Nat} {c : CE}
theorem cells_none (I : Inv X pins σ H s) : ∀ c ∈ cellsOf X, H c = none := fun c hc => let ⟨y, e⟩ := cells_ex hc; I.freeC y c e
theorem cells_frz (I : Inv X pins σ H s) : ∀ c ∈ cellsOf X, ∃ o, frzOf s.heap c = some (.frz o (.own 0)) ∧ s.heap.get? c = some o := fun c hc => by
  obtain ⟨y, e⟩ := cells_ex hc
  obtain ⟨v, o, ho, _⟩ := I.cell y c e
  exact ⟨o, by show (s.heap.get? c).map _ = _; rw [ho]; rfl, ho⟩
theorem sls_lam {κ : Cfg} {ι1 : List Addr} {H1 : Hp} {as : List AV} {ws : List V} (hs : SLs κ ι1 H1 vs σ) (ha : VRs κ ι1 H1 as ws) : SLs κ ι1 H1 (lamL js vs (as.map .val)) (lamL js σ ws) := by
  have hl := ha.length
  refine ⟨by unfold lamL; simp [hl], fun i sv e => ?_⟩
  unfold lamL at e ⊢
  by_cases hi : i < as.length
  · rw [List.getElem?_append_left (by simpa using hi), List.getElem?_map, List.getElem?_map] at e
    rw [List.getElem?_append_left (by simp [← hl]; exact hi), List.getElem?_map]
    cases q : as[i]? with
    | none => rw [q] at e; cases e
    | some a =>
      rw [q] at e
      simp at e
      subst e
      obtain ⟨v, ev, rv⟩ := ha.get q
      exact ⟨v, by rw [ev]; rfl, rv⟩
  · rw [List.getElem?_append_right (by simp; omega), List.getElem?_map] at e
    rw [List.getElem?_append_right (by simp; omega), List.getElem?_map]
    simp only [List.length_map] at e ⊢
    rw [hl] at e
    cases q : js[i - ws.length]? with
    | none => rw [q] at e; cases e
    | some j =>
      rw [q] at e
      have e2 : vs[j]? = some (some sv) := by
        cases q2 : vs[j]? with
        | none => rw [Option.map_some, q2] at e; simp at e
        | some o => rw [Option.map_some, q2] at e; simp at e; rw [e]
      obtain ⟨v, ev, rv⟩ := hs.at_ j sv e2
      exact ⟨v, by rw [Option.map_some, ev]; rfl, rv⟩
theorem clo_svr (I : Inv X pins σ H s) (hr0 : Rel (kf X) ι vs M σ H) (LA : LamAt X H params body scope f) (L : LamP X.env.scope scope ps fr) (hjs : ∀ (i : Nat) (x : Str), fr[i]? = some x → ∃ j, js[i]? = some j ∧ X.N[j]? = some x) (hjl : js.length = fr.length)
    (hbind : ∀ (q : Str) (cl : List (Str × Addr)) (pm cv ctv : Value) (us : List Value), us.length = ps.length → bindArgs (PySem.W.kla_fn "<lambda>" q params body scope cl pm cv ctv) ⟨us, []⟩ = pure (ps.zip us))
    (hbody : ∀ (A : Around) (outer : List Env) (s1 : Shared) (H1 : Hp) (E : XK) (f c' : Addr), Bd (lamCxP X (ps ++ fr) A outer s1 H1 E scope f c') (WR E) k → EvE (lamCxP X (ps ++ fr) A outer s1 H1 E scope f c') (WR E) body c) :
    SVR (kf X) ι (rf (cellsOf X) (frzOf s.heap) H) (.clo (k + 1) (lamF ps.length js vs c)) (.ref f) := by
  obtain ⟨pm, ctv, c', oc, hf, hc'⟩ := LA
  have cN := cells_none I
  have cF := cells_frz I
  have out : ∀ {a u}, H a = some u → a ∉ cellsOf X := fun {a u} e hm => by rw [cN a hm] at e; cases e
  have hfG := (rf_out (G := frzOf s.heap) (out hf)).trans hf
  have hcG := (rf_out (G := frzOf s.heap) (out hc')).trans hc'
  refine ⟨f, rfl, .inl ⟨_, _, _, _, _, hfG⟩, fun A outer s1 H1 ι1 M1 as us ws Q E hr gd e0 hι hk rep hv hvals o => ?_⟩
  have o : OutF (kf X) ι1 H1 Q E (lamF ps.length js vs c as M1) := o
  unfold lamF at o
  split at o
  case isFalse => exact o.elim
  rename_i hal
  have hul : us.length = ps.length := by rw [← hal, hv.length]; exact (Paired.length hvals).symm
  have fz : ∀ c ∈ cellsOf X, ∃ o, H1 c = some (.frz o (.own 0)) ∧ s.heap.get? c = some o := fun c hc => by
    obtain ⟨o, e1, e2⟩ := cF c hc
    exact ⟨o, hk.frz _ _ _ ((rf_in hc).trans e1), e2⟩
  have fz1 : ∀ c ∈ cellsOf X, ∃ o, H1 c = some (.frz o (.own 0)) ∧ s1.heap.get? c = some o := fun c hc => by
    obtain ⟨o, e1, e2⟩ := fz c hc
    exact ⟨o, e1, (e0.hok c _ e1).1⟩
  have Fz0 : Fz (cellsOf X) H1 := fun c hc => let ⟨o, e1, _⟩ := fz c hc; ⟨o, e1⟩
  have nf : ∀ c ∈ cellsOf X, c ∉ frs outer := fun c hc hm => by
    obtain ⟨o, e1, _⟩ := fz c hc
    rw [e0.frf c hm] at e1; cases e1
  have of1 : s1.heap.get? f = some (lamObj X params body scope pm c' ctv) := (e0.hok f _ (hk.frz _ _ _ hfG)).1
  obtain ⟨hoc, ⟨oc', vs', t, hoc', hdc, hvc⟩, _, _⟩ := e0.hok c' _ (hk.frz _ _ _ hcG)
  have lim : s1.heap.NoLimit := e0.mod.nolimit.keeps fun b o e => (e0.bs b o e).1
  refine PySem.W.kla_callFunE hr.depth of1 rfl L.co L.gen rfl ⟨c', oc', vs', t, rfl, hoc', hdc, hvc⟩ ?_
  rw [hbind _ _ _ _ _ us hul]
  refine wpAny_pure (wpAny_newFunctionEnv L.nocell (fun y hy => L.par y.1 (List.of_mem_zip (show (y.1, y.2) ∈ ps.zip us from hy)).1) (fun h₁ hns hsb => ⟨lim.fresh _ hsb, ?_⟩) L.kind)
  show codeAny _ _ (.expr body (LamX.lamEnv X scope s1.heap.objs.size f c')) _ _
  have kp : ∀ b o, s1.heap.get? b = some o → h₁.get? b = some o := fun b o e => hsb.extBut b o (Nat.ne_of_lt (Heap.lt_size e)) (Heap.get?_push_of_some _ e)
  have J : Inv (lamCxP X (ps ++ fr) A outer s1 (unf (cellsOf X) H1) (fun cls d H' => (∀ c ∈ cellsOf X, H' c = none) → E cls d (rf (cellsOf X) H1 H')) scope f c') [] (lamL js σ ws) (unf (cellsOf X) H1) { s1 with heap := h₁, toks := s1.toks + (ps.zip us).length } :=
    lam_startP I cells_in L hjs hjl e0 hr.hd fz hul hvals hns kp
  have B : Bd (lamCxP X (ps ++ fr) A outer s1 (unf (cellsOf X) H1) (fun cls d H' => (∀ c ∈ cellsOf X, H' c = none) → E cls d (rf (cellsOf X) H1 H')) scope f c') (WR fun cls d H' => (∀ c ∈ cellsOf X, H' c = none) → E cls d (rf (cellsOf X) H1 H')) k := by
    refine ⟨⟨rfl, L.nd, takes_of rfl rfl rfl rfl, hr.deeper _, gd⟩, passes_of rfl, fun _ x c e => ?_⟩
    have hc := cells_in (clo_cell I L e)
    obtain ⟨o, e1, e2⟩ := fz1 c hc
    refine ⟨?_, fun hm => ?_⟩
    · cases q : X.base.get? c with
      | none => exact q
      | some o' => have := (e0.bs c o' q).2; rw [e1] at this; cases this
    · rcases List.mem_cons.mp (show c ∈ s1.heap.objs.size :: frs outer from hm) with h | h
      · have := Heap.lt_size e2; rw [h] at this; exact Nat.lt_irrefl _ this
      · exact nf c hc h
  have K0 : Keep H (unf (cellsOf X) H1) := by
    have k1 : ∀ a u, H a = some u → rf (cellsOf X) (frzOf s.heap) H a = some u := fun a u e => (rf_out (out e)).trans e
    exact ⟨fun a xs e => (rf_out (out e)).trans (hk.tup _ _ (k1 _ _ e)), fun a o u e => (rf_out (out e)).trans (hk.frz _ _ _ (k1 _ _ e))⟩
  have R0 : Rel (kf X) ι1 (lamL js vs (as.map .val)) M1 (lamL js σ ws) (unf (cellsOf X) H1) := ⟨sls_lam (hr0.sl.mono hι K0) (hv.monoS (List.prefix_refl _) Fz0.sq), rep.unf Fz0⟩
  have back : ∀ {H'}, Keep (unf (cellsOf X) H1) H' → (∀ c ∈ cellsOf X, H' c = none) → Keep H1 (rf (cellsOf X) H1 H') := fun {H'} q n => by
    refine ⟨fun a xs e => ?_, fun a o u e => ?_⟩
    · by_cases hm : a ∈ cellsOf X
      · exact (rf_in hm).trans e
      · exact (rf_out hm).trans (q.tup _ _ ((rf_out hm).trans e))
    · by_cases hm : a ∈ cellsOf X
      · exact (rf_in hm).trans e
      · exact (rf_out hm).trans (q.frz _ _ _ ((rf_out hm).trans e))
  have ht : rdE (kf X) (WR fun cls d H' => (∀ c ∈ cellsOf X, H' c = none) → E cls d (rf (cellsOf X) H1 H')) c (lamL js σ ws) (unf (cellsOf X) H1) (fun v H' => (∀ c ∈ cellsOf X, H' c = none) → Q v (rf (cellsOf X) H1 H')) := by
    refine ⟨ι1, _, M1, R0, ?_⟩
    cases q : c (lamL js vs (as.map .val)) M1 with
    | ok a M' =>
      rw [q] at o
      exact fun ι' H' v h1 h2 h3 h4 n => o ι' _ v h1 (back h2 n) (h3.rep.rf n) (h4.mono (List.prefix_refl _) (rf_keep n))
    | exc x fs M' =>
      rw [q] at o
      refine fun ι' H' C d h1 h2 h3 h4 n => o ι' _ C d h1 (back h2 n) (h3.rep.rf n) ⟨h4.1, ?_⟩
      have h5 := h4.2
      cases d with
      | none => exact h5
      | some d =>
        obtain ⟨gs, g1, g2, g3⟩ := h5
        exact ⟨gs, (rf_same n _ _ g1).trans g1, g2, g3.mono (List.prefix_refl _) (rf_keep n)⟩
    | bad => rw [q] at o; exact o
  refine PySem.W.kla_codeExpr (wpAny_mono ((hbody A outer s1 _ _ f c' B).run [] _ _ _ _ J ht) (fun v s' hq => ?_) fun e s' hq => ?_)
  · obtain ⟨w', H', J', rv, q⟩ := hq
    have ub : Un (frs outer) [] (unf (cellsOf X) H1) H' s1.heap s'.heap := J'.base
    have n : ∀ c ∈ cellsOf X, H' c = none := fun c hc => let ⟨o, _, e2⟩ := fz1 c hc; ub.free c o e2 (rf_in hc) (by simp)
    have g : ∀ c ∈ cellsOf X, ∃ o, H1 c = some (.frz o (.own 0)) ∧ s'.heap.get? c = some o := fun c hc => let ⟨o, e1, e2⟩ := fz1 c hc; ⟨o, e1, ub.keep c o e2 (rf_in hc) (nf c hc) (by simp)⟩
    exact ⟨w', rf (cellsOf X) H1 H', J'.os, J'.bare, Un.chill ub n, HOk.rf J'.hok n g, rv, q n⟩
  · exact wpAny_mono hq (fun _ s'' z => cx_chill fz1 nf z) fun _ s'' z => cx_chill fz1 nf z
end
end AM
end

section
set_option Elab.async false
set_option linter.all false
set_option autoImplicit false
set_option maxRecDepth 100000
set_option maxHeartbeats 4000000
/-! AM 12: calls that hand closures on; calls of closures. -/
namespace AM
open PySem PySem.Spec L2

abbrev CX' := Loc → AH → R (List SV)
/-- what a lambda's text asks -/
structure LamOk [Tb] (X : Cx) (params : Arguments) (body : Expr) (scope : Scope) (ps fr : List Str) (js : List Nat) (k : Nat) (c : CE) : Prop where
  L : LamP X.env.scope scope ps fr
  hjs : ∀ (i : Nat) (x : Str), fr[i]? = some x → ∃ j, js[i]? = some j ∧ X.N[j]? = some x
  hjl : js.length = fr.length
  hbind : ∀ (q : Str) (cl : List (Str × Addr)) (pm cv ctv : Value) (us : List Value), us.length = ps.length → bindArgs (PySem.W.kla_fn "<lambda>" q params body scope cl pm cv ctv) ⟨us, []⟩ = pure (ps.zip us)
  hbody : ∀ (A : Around) (outer : List Env) (s1 : Shared) (H1 : Hp) (E : XK) (f c' : Addr), Bd (lamCxP X (ps ++ fr) A outer s1 H1 E scope f c') (WR E) k → EvE (lamCxP X (ps ++ fr) A outer s1 H1 E scope f c') (WR E) body c
theorem js_by {N : List Str} {fr : List Str} {js : List Nat} (h : (js.map fun j => N[j]?) = fr.map some) : (∀ (i : Nat) (x : Str), fr[i]? = some x → ∃ j, js[i]? = some j ∧ N[j]? = some x) ∧ js.length = fr.length := by
  refine ⟨fun i x e => ?_, by simpa using congrArg List.length h⟩
  have e2 : (fr.map some)[i]? = some (some x) := by rw [List.getElem?_map, e]; rfl
  rw [← h, List.getElem?_map] at e2
  cases q : js[i]? with
  | none => rw [q] at e2; cases e2
  | some j => rw [q] at e2; exact ⟨j, rfl, Option.some.inj e2⟩
def AR [Tb] (X : Cx) (vs : Loc) (ι : List Addr) (H : Hp) (sv : SV) (w : V) : Prop := SVR (kf X) ι H sv w ∨ ∃ (params : Arguments) (body : Expr) (scope : Scope) (ps fr : List Str) (js : List Nat) (k : Nat) (c : CE) (f : Addr),
  w = .ref f ∧ LamAt X H params body scope f ∧ LamOk X params body scope ps fr js k c ∧ sv = .clo (k + 1) (lamF ps.length js vs c)
def ARs [Tb] (X : Cx) (vs : Loc) : List Addr → Hp → List SV → List V → Prop := fun ι H => Paired (AR X vs ι H)
def rdX [Tb] (X : Cx) (W : WX) (r : CX') : TA := fun σ H Q => ∃ ι vs M, Rel (kf X) ι vs M σ H ∧ Out (kf X) W (ARs X vs) ι vs σ H Q (r vs M)
abbrev EvX [Tb] (X : Cx) (W : WX) (es : List Expr) (r : CX') : Prop := PA X es (rdX X W r)
def nilX : CX' := fun _ M => .ok [] M
def consX (c : CE) (r : CX') : CX' := fun vs M => (c vs M).bind fun a M1 => (r vs M1).bind fun as M2 => .ok (.val a :: as) M2
/-- a slot's thing, handed on -/
def consV (i : Nat) (r : CX') : CX' := fun vs M => match vs[i]? with
  | some (some sv) => (r vs M).bind fun as M2 => .ok (sv :: as) M2
  | _ => .bad
def consL (k n : Nat) (js : List Nat) (c : CE) (r : CX') : CX' := fun vs M => (r vs M).bind fun as M2 => .ok (.clo (k + 1) (lamF n js vs c) :: as) M2
def callX (n : Nat) (F : List SV → AH → R AV) (r : CX') : CE := fun vs M => (r vs M).bind fun as M1 => if as.length = n then F as M1 else .bad
def cloC (kx i : Nat) (r : CA) : CE := fun vs M => match vs[i]? with
  | some (some (.clo k F)) => if k ≤ kx then (r vs M).bind F else .bad
  | _ => .bad
section
variable [Tb] {X : Cx} {W : WX} {e : Expr} {es : List Expr} {pos p : Pos} {r : CX'} {c : CE} {x : Str} {k n : Nat} {F : List SV → AH → R AV}
theorem AR.mono {vs : Loc} {ι ι' : List Addr} {H H' : Hp} (hι : ι <+: ι') (q : Keep H H') {sv : SV} {w : V} (h : AR X vs ι H sv w) : AR X vs ι' H' sv w :=
  h.imp (fun z => z.mono hι q) fun ⟨params, body, scope, ps, fr, js, k, c, f, e, ⟨pm, ctv, c', oc, a1, a2⟩, b, d⟩ => ⟨params, body, scope, ps, fr, js, k, c, f, e, ⟨pm, ctv, c', oc, q.frz _ _ _ a1, q.frz _ _ _ a2⟩, b, d⟩
theorem ex_nil : EvX X W [] nilX := PA.imp pa_nil fun σ H Q ⟨ι, vs, M, hr, o⟩ => Out.fin hr o .nil
/-- one more argument, then the rest -/
theorem ex_step {te : TE} {sv : SV} (ha : PE X e te) (hr : EvX X W es r) (hs : starEach (e :: es) X.env = (false, eval e X.env) :: starEach es X.env) {R' : TA}
    (h : ∀ σ H Q, R' σ H Q → te σ H fun w H1 => ∃ ι vs M sv, Rel (kf X) ι vs M σ H1 ∧ AR X vs ι H1 sv w ∧ Out (kf X) W (ARs X vs) ι vs σ H1 Q ((r vs M).bind fun as M2 => .ok (sv :: as) M2)) (hm : ∀ σ H (Q Q' : VK), te σ H Q → (∀ v H', Q v H' → Q' v H') → te σ H Q') : PA X (e :: es) R' :=
  PA.imp (pa_cons ha hr hs) fun σ H Q q => hm _ _ _ _ (h σ H Q q) fun w H1 ⟨ι, vs, M, sv, a1, a2, a3⟩ => ⟨ι, vs, M, a1, (Out.bind a3).imp fun ι' H' svs ws M' g1 g2 g3 g4 ⟨ι1, as, M1, k1, k2, k3, k4, k5⟩ => Out.fin k3 k5 (.cons (a2.mono k1 k2) k4)⟩
theorem ex_cons {ca : CE} (ha : EvE X W e ca) (hr : EvX X W es r) (hs : starEach (e :: es) X.env = (false, eval e X.env) :: starEach es X.env := by rfl) : EvX X W (e :: es) (consX ca r) :=
  ex_step (sv := .val .non) ha hr hs (fun σ H Q ⟨ι, vs, M, hr, o⟩ => Out.run hr o fun ι1 a M1 v H1 h1 h2 h3 h4 h5 => ⟨ι1, vs, M1, .val a, h3, .inl h4, h5⟩) fun σ H Q Q' h k => rd.imp h k
theorem ex_var (i : Nat) (hr : EvX X W es r) (hN : X.N[i]? = some x := by rfl) (hv : Vis X.env.scope x := by first | exact Or.inl rfl | exact Or.inr (Or.inl rfl) | exact Or.inr (Or.inr rfl)) (hd : (x == ("__debug__" : Str)) = false := by decide +kernel)
    (hcd : (x == ("__classdict__" : Str)) = false := by decide +kernel) (hs : starEach (.Name x pos :: es) X.env = (false, eval (.Name x pos) X.env) :: starEach es X.env := by rfl) : EvX X W (.Name x pos :: es) (consV i r) :=
  ex_step (sv := .val .non) (pe_var hN hv hd hcd) hr hs (fun σ H Q ⟨ι, vs, M, hr, o⟩ => by
    unfold consV at o
    split at o
    · rename_i sv e
      obtain ⟨v, ev, rv⟩ := hr.sl.at_ i _ e
      exact ⟨v, ev, ι, vs, M, sv, hr, .inl rv, o⟩
    · exact o.elim) fun σ H Q Q' ⟨v, e, h⟩ k => ⟨v, e, k _ _ h⟩
theorem pe_lam {params : Arguments} {body : Expr} {scope : Scope} (L : LmOk X) (hdef : defaultsOf params X.env = ([], [])) (hfree : X.Ok → ∀ y ∈ scope.names, y.2 = .free → ∃ c, X.env.cells.lookup y.1 = some c) :
    PE X (.Lambda params body scope pos) (fun σ H Q => ∃ ι M, Rep (kf X) ι M H ∧ ∀ f H1, Keep H H1 → Rep (kf X) ι M H1 → LamAt X H1 params body scope f → Q (.ref f) H1) :=
  ⟨fun pins s σ H Q I ⟨ι, M, rep, q⟩ => lam_make3 I rep L hdef (hfree I.ok) fun f H1 s' I1 kp rep1 la => ⟨.ref f, H1, I1, rfl, q f H1 kp rep1 la⟩⟩
theorem ex_lam {params : Arguments} {body : Expr} {scope : Scope} {ps fr : List Str} {js : List Nat} (L : LmOk X) (O : LamOk X params body scope ps fr js k c) (hr : EvX X W es r) (hdef : defaultsOf params X.env = ([], []) := by rfl)
    (hs : starEach (.Lambda params body scope pos :: es) X.env = (false, eval (.Lambda params body scope pos) X.env) :: starEach es X.env := by rfl) : EvX X W (.Lambda params body scope pos :: es) (consL k ps.length js c r) :=
  ex_step (sv := .val .non) (pe_lam L hdef fun ok => O.L.has ok) hr hs (fun σ H Q ⟨ι, vs, M, hr, o⟩ => ⟨ι, M, hr.rep, fun f H1 kp rep1 la =>
    ⟨ι, vs, M, _, ⟨hr.sl.mono (List.prefix_refl _) kp, rep1⟩, .inr ⟨params, body, scope, ps, fr, js, k, c, f, rfl, la, O, rfl⟩, by
      have o : Out (kf X) W (ARs X vs) ι vs σ H Q ((r vs M).bind fun as M2 => .ok (.clo (k + 1) (lamF ps.length js vs c) :: as) M2) := o
      cases q : (r vs M).bind fun as M2 => R.ok (.clo (k + 1) (lamF ps.length js vs c) :: as) M2 with
      | ok a M' => rw [q] at o; exact fun ι' H' b h1 h2 h3 h4 => o ι' H' b h1 (kp.trans h2) h3 h4
      | exc x fs M' => rw [q] at o; exact fun ι' H' C d h1 h2 h3 h4 => o ι' H' C d h1 (kp.trans h2) h3 h4
      | bad => rw [q] at o; exact o⟩⟩) fun σ H Q Q' ⟨ι, M, rep, h⟩ q => ⟨ι, M, rep, fun f H1 a b d => q _ _ (h f H1 a b d)⟩
/-- a state with the cells frozen, for a callee -/
theorem env0_fz {pins : List (Addr × Obj)} {σ : L2.St} {H : Hp} {s : Shared} (B : Bd X W k) (I : Inv X pins σ H s) : Env0 X.prog X.w X.K X.mg X.base X.A X.stack s (rf (cellsOf X) (frzOf s.heap) H) := by
  have e0 := I.env0
  refine ⟨e0.frames, e0.mod, fun b o e => ⟨(e0.bs b o e).1, ?_⟩, e0.bsz, e0.funs, fun b hb => ?_, HOk.rf e0.hok (cells_none I) (cells_frz I), e0.bare⟩
  · refine (rf_out fun hm => ?_).trans (e0.bs b o e).2
    obtain ⟨y, q⟩ := cells_ex hm
    have := (B.cb I.ok y b q).1
    rw [e] at this; cases this
  · refine (rf_out fun hm => ?_).trans (e0.frf b hb)
    obtain ⟨y, q⟩ := cells_ex hm
    exact (B.cb I.ok y b q).2 hb
theorem ARs.svr {pins : List (Addr × Obj)} {σ : L2.St} {H : Hp} {s : Shared} {ι : List Addr} {vs : Loc} {M : AH} {svs : List SV} {ws : List V} (I : Inv X pins σ H s) (hr : Rel (kf X) ι vs M σ H) (h : ARs X vs ι H svs ws) :
    Paired (SVR (kf X) ι (rf (cellsOf X) (frzOf s.heap) H)) svs ws := Paired.mapP h fun sv w q => by
  rcases q with q | ⟨params, body, scope, ps, fr, js, k, c, f, rfl, la, O, rfl⟩
  · exact q.mono (List.prefix_refl _) (rf_keep (cells_none I))
  · exact clo_svr I hr la O.L O.hjs O.hjl O.hbind O.hbody
theorem outF_fz {pins : List (Addr × Obj)} {σ : L2.St} {H : Hp} {s : Shared} {ι : List Addr} {vs : Loc} {M : AH} {Q : VK} {q : R AV} (I : Inv X pins σ H s) (hr : Rel (kf X) ι vs M σ H) (o : Out (kf X) W (VR (kf X)) ι vs σ H Q q) :
    OutF (kf X) ι (rf (cellsOf X) (frzOf s.heap) H) (fun v H' => Q v (unf (cellsOf X) H')) (fun cls d H' => WE W σ cls d (unf (cellsOf X) H')) q := by
  have cN := cells_none I
  have cF := cells_frz I
  have fz : ∀ {H'}, Keep (rf (cellsOf X) (frzOf s.heap) H) H' → Fz (cellsOf X) H' := fun {H'} h2 c hc => let ⟨o, e1, _⟩ := cF c hc; ⟨o, h2.frz _ _ _ ((rf_in hc).trans e1)⟩
  have out : ∀ {a u}, H a = some u → a ∉ cellsOf X := fun {a u} e hm => by rw [cN a hm] at e; cases e
  have kp : ∀ {H'}, Keep (rf (cellsOf X) (frzOf s.heap) H) H' → Keep H (unf (cellsOf X) H') := fun {H'} h2 =>
    ⟨fun a xs e => (rf_out (out e)).trans (h2.tup _ _ ((rf_out (out e)).trans e)), fun a o u e => (rf_out (out e)).trans (h2.frz _ _ _ ((rf_out (out e)).trans e))⟩
  cases q with
  | ok a M' => exact fun ι' H' v h1 h2 h3 h4 => o ι' _ v h1 (kp h2) ⟨hr.sl.mono h1 (kp h2), h3.unf (fz h2)⟩ (h4.monoS (List.prefix_refl _) (fz h2).sq)
  | exc x fs M' =>
    refine fun ι' H' C d h1 h2 h3 h4 => o ι' _ C d h1 (kp h2) ⟨hr.sl.mono h1 (kp h2), h3.unf (fz h2)⟩ ⟨h4.1, ?_⟩
    have h5 := h4.2
    cases d with
    | none => exact h5
    | some d =>
      obtain ⟨gs, g1, g2, g3⟩ := h5
      exact ⟨gs, (rf_out ((fz h2).out g1 fun _ z => by cases z)).trans g1, g2, g3.monoS (List.prefix_refl _) (fz h2).sq⟩
  | bad => exact o
/-- a def called with closures among its arguments -/
theorem ev_callX (B : Bd X W k) (hk : Kn (kf X) k x n F) (hg : Gl X x) (ha : EvX X W (e :: es) r) (hdb : (x == ("__debug__" : Str)) = false := by decide +kernel)
    (he : starEach (e :: es) X.env = (false, eval e X.env) :: starEach es X.env := by rfl) (hpl : (backTo pos (starEach es X.env)).any (·.1) = false := by rfl) : EvE X W (.Call (.Name x p) (e :: es) [] pos) (callX n F r) := by
  obtain ⟨f, fd, ps, h1, h2, h3, h4⟩ := hk.ex
  refine ⟨fun pins s σ H Q I ⟨ι, vs, M, hr, o⟩ => ?_⟩
  refine wpAny_Call_Name_kw (ld_glob I hg h1 ?_ hdb)
  have hq : rdX X W r σ H fun ws H1 => ∃ ι1 svs M1, Rel (kf X) ι1 vs M1 σ H1 ∧ ARs X vs ι1 H1 svs ws ∧ Out (kf X) W (VR (kf X)) ι1 vs σ H1 Q (if svs.length = n then F svs M1 else .bad) :=
    ⟨ι, vs, M, hr, (Out.bind o).imp fun _ _ _ _ _ _ _ _ _ ⟨ι1, a, M1, g1, g2, g3, g4, g5⟩ => ⟨ι1, a, M1, g3, g4, g5⟩⟩
  refine PySem.W.callWith_K (h₀ := X.base) I.ok.mod.kin h2 (thn (ha.run pos pins s σ H _ I hq) fun us s1 ⟨ws, H1, I1, r1, ι1, svs, M1, g3, g4, g5⟩ => ⟨I1.kIn, ?_⟩) he hpl
  split at g5
  case isFalse => exact g5.elim
  rename_i hl
  have cN := cells_none I1
  have cF := cells_frz I1
  have hsp : spF (kf X) n F ws (rf (cellsOf X) (frzOf s1.heap) H1) (fun v H' => Q v (unf (cellsOf X) H')) (fun cls d H' => WE W σ cls d (unf (cellsOf X) H')) :=
    ⟨(Paired.length g4).symm.trans hl, ι1, M1, svs, g3.rep.rf cN, ARs.svr I1 g3 g4, outF_fz I1 g3 g5⟩
  have hpl' : us.length = ps.length := by rw [← r1.length]; exact h3.len _ _ _ _ hsp
  have b := h4 s1 us I1.kIn (by rw [List.append_nil]; exact hpl')
  rw [List.append_nil] at b
  refine wpAny_call (codeAny_mono (h3.run X.A X.stack s1 _ ⟨us, []⟩ us ws _ _ B.room B.gd (env0_fz B I1) b r1 hsp) fun rr s' hq => ?_)
  cases rr with
  | error e => exact passAt B.tk σ pins H1 s1 e s' I1 (cx_thaw cN cF hq)
  | ok fl =>
    cases fl with
    | ret u =>
      obtain ⟨v, H', os, bare, un, hok, rv, q⟩ := hq
      have fz : Fz (cellsOf X) H' := fun c hc => let ⟨o, e1, _⟩ := cF c hc; ⟨o, un.frzs c o _ ((rf_in hc).trans e1)⟩
      exact ⟨v, unf (cellsOf X) H', Inv.call' (ch := []) I1 os (Un.thaw un hok cN cF) (HOk.unf hok fz) bare (fun b z => absurd z (by simp)), rv, q⟩
    | next => exact False.elim hq
    | brk => exact False.elim hq
    | cont => exact False.elim hq
theorem clo_at {pins : List (Addr × Obj)} {σ : L2.St} {H : Hp} {s : Shared} {f : Addr} (I : Inv X pins σ H s) (h : CloAt (kf X) H f) : PySem.W.FnAt f s.heap := by
  rcases h with ⟨oc, od, fd, sl, u, q⟩ | ⟨oc, od, fd, sl, q⟩
  · exact ⟨oc, od, fd, sl, (I.hok f _ q).1⟩
  · exact ⟨oc, od, fd, sl, I.kIn _ _ q⟩
/-- a slot's closure is called -/
theorem ev_clo {ra : CA} (i : Nat) (B : Be X W k) (ha : EvA X W (e :: es) ra) (hN : X.N[i]? = some x := by rfl) (hv : Vis X.env.scope x := by first | exact Or.inl rfl | exact Or.inr (Or.inl rfl) | exact Or.inr (Or.inr rfl)) (hd : (x == ("__debug__" : Str)) = false := by decide +kernel)
    (hcd : (x == ("__classdict__" : Str)) = false := by decide +kernel) (he : starEach (e :: es) X.env = (false, eval e X.env) :: starEach es X.env := by rfl) (hpl : (backTo pos (starEach es X.env)).any (·.1) = false := by rfl) :
    EvE X W (.Call (.Name x p) (e :: es) [] pos) (cloC k i ra) := by
  refine ⟨fun pins s σ H Q I ⟨ι, vs, M, hr, o⟩ => ?_⟩
  unfold cloC at o
  split at o
  case h_2 => exact o.elim
  rename_i kk F ev
  split at o
  case isFalse => exact o.elim
  rename_i hle
  obtain ⟨v, e1, f, rfl, cat, cok⟩ := hr.sl.at_ i _ ev
  refine wpAny_Call_Name_kw (thn ((pe_var (pos := p) (i := i) hN hv hd hcd).run pins s σ H (fun v H1 => v = .ref f ∧ H1 = H) I ⟨.ref f, e1, rfl, rfl⟩) fun u s1 ⟨v, H1, I1, rv, ev1, eH⟩ => ?_)
  subst ev1 eH
  obtain rfl : u = Value.ref f := rv
  have hq : rdA (kf X) W ra σ H1 fun ws H2 => ∃ ι1 as M1, ι <+: ι1 ∧ Keep H1 H2 ∧ Rel (kf X) ι1 vs M1 σ H2 ∧ VRs (kf X) ι1 H2 as ws ∧ Out (kf X) W (VR (kf X)) ι1 vs σ H2 Q (F as M1) :=
    ⟨ι, vs, M, hr, (Out.bind o).imp fun _ _ _ _ _ _ _ _ _ ⟨ι1, a, M1, g1, g2, g3, g4, g5⟩ => ⟨ι1, a, M1, g1, g2, g3, g4, g5⟩⟩
  refine PySem.W.callWith_F (clo_at I1 cat) (thn (ha.run pos pins s1 σ H1 _ I1 hq) fun us s2 ⟨ws, H2, I2, r2, ι1, as, M1, g1, g2, g3, g4, g5⟩ => ⟨?_, ?_⟩) he hpl
  · exact clo_at I2 (cat.imp (fun ⟨oc, od, fd, sl, u, q⟩ => ⟨oc, od, fd, sl, u, g2.frz _ _ _ q⟩) id)
  · refine wpAny_call (codeAny_mono (cok X.A X.stack s2 H2 ι1 M1 as us ws Q (WE W σ) (B.room.mono hle) B.gd I2.env0 g1 g2 g3.rep g4 r2 (OutF.ofOut g3.sl (fun _ _ _ => Iff.rfl) g5)) fun rr s' hq => ?_)
    cases rr with
    | error e => exact passAt B.tk σ pins H2 s2 e s' I2 hq
    | ok fl =>
      cases fl with
      | ret u => exact I2.after hq
      | next => exact False.elim hq
      | brk => exact False.elim hq
      | cont => exact False.elim hq
end
end AM
end

section
set_option Elab.async false
set_option linter.all false
set_option autoImplicit false
set_option maxRecDepth 100000
set_option maxHeartbeats 4000000
/-! AM 13: exceptions. -/
namespace AM
open PySem PySem.Spec L2

/-! ### own classes with one field, raised -/
/-- self.f = p -/
def spI (C : Addr) (f : Str) : Sp := fun vs H Q _ => ∃ (a : Addr) (v : V), vs = [.ref a, v] ∧ H a = some (exo a C none) ∧ ∀ dx, H dx = none → dx ≠ a → Q .non (upd (upd H dx (exd dx [(f, v)])) a (exo a C (some dx)))
structure ExCls (κ : Cfg) (k : Nat) (x f : Str) : Prop where
  ex : ∃ (C fI : Addr) (fd : FuncData) (ps : List Str), κ.mg x = some (.ref C) ∧ OexC κ.K C ∧ PySem.W.findIn κ.K (.ref C) "__init__" = some (some (.ref fI)) ∧ PySem.W.typeIn κ.K (.ref fI) = some (.type "function") ∧
    FnOk κ.P κ.w κ.K κ.mg κ.base (L2.CX κ.P κ.w) k fI fd ps (spI C f) ∧ Binds κ.K fd ps []
section
variable {P : Program} {w : World} {K : PySem.W.Frag} {mg : Str → Option Value} {base : Heap} {qual : Str} {params : Arguments} {scope : Scope} {C f : Addr} {fd : FuncData} {fld p : Str} {q1 q2 q3 q4 : Pos}
theorem init_ok (F : FunD K "__init__" qual params [.Assign [.Attribute (.Name "self" q1) fld q2] (.Name p q3) q4] scope [] [] f fd) (S : FnScope ["self", p] ["self", p] scope) (T : OexC K C) (hno : PySem.W.findIn K (.ref C) fld = some none)
    (v1 : Vis scope "self") (v2 : Vis scope p) (hp1 : (p == ("__debug__" : Str)) = false) (hp2 : (p == ("__classdict__" : Str)) = false) : FnOk P w K mg base (L2.CX P w) 1 f fd ["self", p] (spI C fld) := by
  refine F.ok S (fun vs H Q E ⟨a, v, e, _⟩ => by rw [e]; rfl) fun cdv A outer s H vs Q E hr ⟨a, v, e, ha, q⟩ => ?_
  subst e
  refine ⟨_, pss_one (ps_ost (pe_var (i := 0) (x := "self") rfl v1) (pe_var (i := 1) (x := p) rfl v2 hp1 hp2)), ?_⟩
  exact ⟨v, rfl, .ref a, rfl, a, C, rfl, T, hno, .inl ⟨ha, q⟩⟩
end
def raiseC (x f : Str) (c : CE) : CS := fun vs M => thenS (c vs M) vs fun a M1 => .exc x [(f, a)] vs M1
section
variable [Tb] {X : Cx} {W : WX} {e : Expr} {pos p pos2 : Pos} {c : CE} {x f : Str} {k : Nat}
theorem es_raise (B : Bd X W (k + 1)) (E1 : ExCls (kf X) k x f) (hg : Gl X x) (he : EvE X W e c) (hdb : (x == ("__debug__" : Str)) = false := by decide +kernel) (hs : starEach (e :: []) X.env = (false, eval e X.env) :: starEach [] X.env := by rfl) (hpl : (backTo pos (starEach [] X.env)).any (·.1) = false := by rfl) :
    EvS X W (.Raise (some (.Call (.Name x p) [e] [] pos)) none pos2) (raiseC x f c) := by
  obtain ⟨C, fI, fd, ps, h1, h2, h3, h4, h5, h6⟩ := E1.ex
  refine PS.imp (ps_raise B.calm B.tk (pmk_oex h2 h3 h4 h5 B.room h6 .nil (passes_call B.tk fun _ _ _ _ z => z.elim) hg h1 (pa_cons he pa_nil hs) hdb hs hpl)) fun D σ H ⟨ι, vs, M, hr, o⟩ => ?_
  refine OutS.run (k := fun a M1 => .exc x [(f, a)] vs M1) hr o fun ι1 a M1 v H1 g1 g2 g3 g4 g5 => ?_
  refine ⟨by simp, fun q hq => ⟨q, v, rfl, upd_same, fun dx hdx hne => ⟨rfl, dx, [(f, v)], ?_, ?_, ?_, ?_⟩⟩⟩
  · exact upd_same
  · rw [upd_ne hne, upd_same]
  · rw [upd_ne hne] at hdx; exact hdx
  · have hdx' : H1 dx = none := by rw [upd_ne hne] at hdx; exact hdx
    have eH : upd (L2.del (upd (upd (upd H1 q (exo q C none)) dx (exd dx [(f, v)])) q (exo q C (some dx))) q) dx (.xd [(f, v)]) = upd H1 dx (.xd [(f, v)]) := by
      funext b
      by_cases hb : b = dx
      · rw [hb, upd_same, upd_same]
      · rw [upd_ne hb, upd_ne hb]
        by_cases hq2 : b = q
        · rw [hq2, L2.del_same, hq]
        · rw [L2.del_ne hq2, upd_ne hq2, upd_ne hb, upd_ne hq2]
    rw [eH]
    have kp : Keep H1 (upd H1 dx (.xd [(f, v)])) := Keep.new hdx'
    exact g5 ι1 _ σ C (some dx) (List.prefix_refl _) kp (g3.other hdx') ⟨h1, [(f, v)], upd_same, rfl, (VRs.cons g4 .nil).mono (List.prefix_refl _) kp⟩
end

/-! ### try .. except -/
/-- a clause: the class, the name's slot, the suite -/
def endsAt (i : Option Nat) (D : Ends) : Ends := match i with
  | some j => { nx := fun σ H => D.nx (σ.set j none) H, rt := D.rt, bk := fun σ H => D.bk (σ.set j none) H, ct := fun σ H => D.ct (σ.set j none) H }
  | none => D
def slotAt (i : Option Nat) (v : V) (σ : L2.St) : L2.St := match i with
  | some j => σ.set j (some v)
  | none => σ
/-- the exception is known from now on -/
def Held (H : Hp) (a : Addr) (oe : Obj) (d : Option Addr) (H2 : Hp) : Prop := H a = none ∧ (∃ vs, oe.data = .fields vs) ∧ oe.dict = d ∧
  ((d = none ∧ H2 = upd H a (.frz oe (.own 1))) ∨ ∃ dd gs od, d = some dd ∧ dd ≠ a ∧ H dd = some (.xd gs) ∧ H2 = upd (upd H dd (.frz od (.xd gs))) a (.frz oe (.own 1)))
def wHd (K : PySem.W.Frag) (Wout : WX) (D : Ends) : List (Value × Option Nat × TS) → WX
  | [] => Wout
  | (c, i, ts) :: r => fun cls d σ H => ∃ b, PySem.W.exmOne K cls c = some b ∧ (b = true → (∀ dd, d = some dd → ∃ gs, H dd = some (.xd gs)) ∧ ∀ a oe H2, oe.cls = cls → Held H a oe d H2 → ts (endsAt i D) (slotAt i (.ref a) σ) H2) ∧ (b = false → wHd K Wout D r cls d σ H)
inductive HdA (X : Cx) : List ExceptHandler → List (Value × Option Nat × TS) → Prop
  | nil : HdA X [] []
  | as_ {x n : Str} {c : Value} {i : Nat} {ts : TS} {b₀ : Stmt} {suite : List Stmt} {np pos' : Pos} {hds : List ExceptHandler} {l : List (Value × Option Nat × TS)} (hc : Names X x c) (hi : X.N[i]? = some n) (hln : X.env.kindOf n = some .local)
      (hsu : ∀ (a : Addr) (pn : List (Addr × Obj)), PSs (X.suite a pn) (b₀ :: suite) ts) (r : HdA X hds l) : HdA X (.ExceptHandler (some (.Name x np)) (some n) (b₀ :: suite) pos' :: hds) ((c, some i, ts) :: l)
  | no {x : Str} {c : Value} {ts : TS} {b₀ : Stmt} {suite : List Stmt} {np pos' : Pos} {hds : List ExceptHandler} {l : List (Value × Option Nat × TS)} (hc : Names X x c)
      (hsu : ∀ (a : Addr) (pn : List (Addr × Obj)), PSs (X.suite a pn) (b₀ :: suite) ts) (r : HdA X hds l) : HdA X (.ExceptHandler (some (.Name x np)) none (b₀ :: suite) pos' :: hds) ((c, none, ts) :: l)
section
variable {X : Cx} {pins : List (Addr × Obj)} {σ : L2.St} {H H2 : Hp} {s : Shared}
/-- the exception's object (and its dict) are held from now on -/
theorem inv_held {a : Addr} {oe : Obj} {d : Option Addr} (I : Inv X pins σ H s) (n0 : X.s_0.heap.get? a = none) (ha : s.heap.get? a = some oe) (nL : a ≠ X.env.locals) (nC : ∀ x c, X.env.cells.lookup x = some c → c ≠ a) (nP : ∀ p ∈ X.pn ++ pins, p.1 ≠ a) (nF : a ∉ X.fs)
    (hd : Held H a oe d H2) (hod : ∀ dd gs, d = some dd → H dd = some (.xd gs) → ∀ od u, H2 dd = some (.frz od u) → s.heap.get? dd = some od) : Inv X pins σ H2 s := by
  obtain ⟨hn, hv, hdt, hh⟩ := hd
  have key : (∀ b, b ≠ a → H b = none → H2 b = none) ∧ (∀ b u, H b = some u → (∀ gs, u ≠ .xd gs) → H2 b = some u) ∧ HOk X.prog X.w H2 s.heap := by
    rcases hh with ⟨e1, rfl⟩ | ⟨dd, gs, od, e1, nda, e2, rfl⟩
    · refine ⟨fun b hb n => by rw [upd_ne hb]; exact n, fun b u e _ => by rw [upd_ne (ne_of_none e hn)]; exact e, fun b u e => ?_⟩
      by_cases hb : b = a
      · subst hb; rw [upd_same] at e; cases e
        exact ⟨ha, oe, ha⟩
      · rw [upd_ne hb] at e
        exact (I.hok b u e).stay (fun _ _ _ q => q) (fun c q => by rw [upd_ne (ne_of_none q hn)]; exact q) (fun c xs q => by rw [upd_ne (ne_of_none q hn)]; exact q)
    · have at_ : ∀ b u, H b = some u → (∀ gs, u ≠ .xd gs) → upd (upd H dd (.frz od (.xd gs))) a (.frz oe (.own 1)) b = some u := fun b u e n => by
        rw [upd_ne (ne_of_none e hn), upd_ne (fun z => n gs (Option.some.inj (e.symm.trans (by rw [z]; exact e2))))]; exact e
      refine ⟨fun b hb n => by rw [upd_ne hb, upd_ne (ne_of_none e2 n).symm]; exact n, at_, fun b u e => ?_⟩
      by_cases hb : b = a
      · subst hb; rw [upd_same] at e; cases e
        exact ⟨ha, oe, ha⟩
      · rw [upd_ne hb] at e
        by_cases hb2 : b = dd
        · subst hb2; rw [upd_same] at e; cases e
          refine ⟨hod b gs e1 e2 od (.xd gs) (by rw [upd_ne nda, upd_same]), ?_⟩
          exact (I.hok b _ e2).stay (fun _ _ _ q => q) (fun c q => at_ c _ q fun _ z => by cases z) (fun c xs q => at_ c _ q fun _ z => by cases z)
        · rw [upd_ne hb2] at e
          exact (I.hok b u e).stay (fun _ _ _ q => q) (fun c q => at_ c _ q fun _ z => by cases z) (fun c xs q => at_ c _ q fun _ z => by cases z)
  obtain ⟨k1, k2, k3⟩ := key
  refine ⟨I.ok, I.os, I.bare, ⟨I.base.keep, I.base.slot, fun b o e n hx => ?_, I.base.there, fun b xs e => k2 b _ (I.base.tups b xs e) (fun _ z => by cases z), fun b o u e => k2 b _ (I.base.frzs b o u e) (fun _ z => by cases z), fun b ps e => ?_⟩, I.loc, I.cell, k1 _ nL.symm I.free, fun x c e => k1 _ (nC x c e) (I.freeC x c e), fun p hp => ?_, k3, I.len⟩
  · exact k1 b (fun z => by rw [z, n0] at e; cases e) (I.base.free b o e n hx)
  · obtain ⟨more, q⟩ := I.base.tbls b ps e
    exact ⟨more, k2 b _ q fun _ z => by cases z⟩
  · obtain ⟨q1, q2, q3, q4, q5⟩ := I.pin p hp
    exact ⟨q1, k1 _ (nP p hp) q2, q3, q4, q5⟩
theorem inv_suite (I : Inv X pins σ H s) (a : Addr) : Inv (X.suite a (X.pn ++ pins)) [] σ H s :=
  ⟨I.ok.suite _ _, I.os, I.bare, I.base, I.loc, I.cell, I.free, I.freeC, fun p hp => I.pin p (by rw [List.append_nil] at hp; exact hp), I.hok, I.len⟩
theorem inv_unsuite {a : Addr} {pn' : List (Addr × Obj)} (I : Inv (X.suite a (X.pn ++ pins)) pn' σ H s) (ok : X.Ok) : Inv X pins σ H s :=
  ⟨ok, I.os, I.bare, I.base, I.loc, I.cell, I.free, I.freeC, fun p hp => I.pin p (List.mem_append_left _ hp), I.hok, I.len⟩
theorem held_of (I : Inv X pins σ H s) {a : Addr} {oe : Obj} {d : Option Addr} (hn : H a = none) (hv : ∃ vs, oe.data = .fields vs) (hd : oe.dict = d) (hx : ∀ dd, d = some dd → ∃ gs, H dd = some (.xd gs)) :
    ∃ H2, Held H a oe d H2 ∧ ∀ dd gs, d = some dd → H dd = some (.xd gs) → ∀ od u, H2 dd = some (.frz od u) → s.heap.get? dd = some od := by
  cases d with
  | none => exact ⟨_, ⟨hn, hv, hd, .inl ⟨rfl, rfl⟩⟩, fun dd gs e => by cases e⟩
  | some dd =>
    obtain ⟨gs, e⟩ := hx dd rfl
    obtain ⟨od, ho⟩ := objOk_get (I.hok dd _ e)
    have nda : dd ≠ a := ne_of_none e hn
    refine ⟨_, ⟨hn, hv, hd, .inr ⟨dd, gs, od, rfl, nda, e, rfl⟩⟩, fun d2 gs' e1 e2 od' u q => ?_⟩
    cases e1
    rw [upd_ne nda, upd_same] at q
    cases q
    exact ho
end
section
variable {X : Cx} {body : List Stmt} {h₀ : ExceptHandler} {hds : List ExceptHandler} {l : List (Value × Option Nat × TS)} {pos : Pos} {tb : WX → TS} {Wout : WX}
theorem ps_tryA (hex : X.ex = []) (hs : X.stack = X.env :: X.outer) (hf : X.env.frame = some X.env.locals) (hN : X.N.Nodup) (tk : Takes X Wout)
    (hb : ∀ (W : WX) (pn : List (Addr × Obj)) (xe : Value → Shared → Prop), Takes (X.tr pn xe) W → PassesOwn (model X.prog X.w) X.A X.env xe → PSs (X.tr pn xe) body (tb W))
    (hh : HdA X (h₀ :: hds) l) : PS X (.Try body (h₀ :: hds) [] [] pos) (fun D σ H => tb (wHd X.K Wout D l) D σ H) := by
  refine ⟨fun pins s σ H D I h => ?_⟩
  have ok := I.ok
  have hfr : X.A.frames = some (X.env :: X.outer) := by rw [ok.frames, hs]
  refine wpAny_Try_except ?_
  refine wpAny_mono ((hb (wHd X.K Wout D l) (X.pn ++ pins) (fun e s₁ => wpAny (model X.prog X.w) X.A (noteFrame e X.env) (fun _ s₂ => wpAny (model X.prog X.w) X.A (setFlight e none) (fun _ s₃ =>
    wpAny (model X.prog X.w) X.A (handleBy e X.env (h₀ :: hds)) (SP X pins D) X.xe s₃) X.xe s₂) X.xe s₁) (fun u s' xx => ?_) PassesOwn.looking).run [] s σ H D (I.toTry _) h) (fun f s1 hsp => ?_) (fun e s1 he => he)
  · -- the catch
    obtain ⟨a, B, sI, pins', σ', H', cls, d, rfl, J', nb, up, sky, na, os, ag, w⟩ := xx
    have J : Inv X pins σ' H' sI := J'.ofTry ok
    have sky' : Sky B (X.env :: X.outer) a (Zc cls d) X.env.locals s'.heap := by rw [← hs]; exact sky
    show wpAny (model X.prog X.w) X.A (noteFrame (.ref a) X.env) _ _ _
    refine Sky.land Zc.steady hfr hf sky' fun h3 fl3 up3 => ?_
    have J3 : Inv X pins σ' H' { s' with heap := h3 } := J.landed nb fl3.1 (up.trans up3) os ag
    obtain ⟨oe3, vs3, he3, hz3, hd3⟩ := fl3.there
    have notFr : ∀ {h : Heap} {o : Obj} {vs : Array Value}, h.FunFrames B (X.env :: X.outer) → h.get? a = some o → o.data = .fields vs → a ∉ frs (X.env :: X.outer) := fun {h o vs} ff e dd hm => by
      obtain ⟨_, o', e', hnf⟩ := ff.mem hm
      rw [e] at e'; cases e'
      exact hnf _ dd
    have nfr := notFr fl3.2.2.1 he3 hd3
    have nL : a ≠ X.env.locals := fun z => nfr (List.mem_filterMap.mpr ⟨X.env, List.mem_cons_self, by rw [hf, z]⟩)
    have nF : a ∉ X.fs := fun hm => by
      obtain ⟨e, he, q⟩ := List.mem_filterMap.mp hm
      exact nfr (List.mem_filterMap.mpr ⟨e, List.mem_cons_of_mem _ he, q⟩)
    have nI : sI.heap.get? a = none := by
      cases q : sI.heap.get? a with
      | none => rfl
      | some o =>
        have := nb a o q (by rw [hs]; exact nfr)
        rw [fl3.2.1] at this; cases this
    have n0 : X.s_0.heap.get? a = none := by
      cases q : X.s_0.heap.get? a with
      | none => rfl
      | some o =>
        obtain ⟨o', q'⟩ := J.base.there a o q (by rw [hex]; simp)
        rw [nI] at q'; cases q'
    have nP : ∀ p ∈ X.pn ++ pins, p.1 ≠ a := fun p hp z => by
      have := (J.pin p hp).1
      rw [z, nI] at this; cases this
    have nC : ∀ x c, X.env.cells.lookup x = some c → c ≠ a := fun x c e z => by
      obtain ⟨v, o, ho, _⟩ := J.cell x c e
      rw [z, nI] at ho; cases ho
    have S3 := J3.suite he3 hd3 na nL nF
    have go : ∀ {hds' : List ExceptHandler} {l' : List (Value × Option Nat × TS)}, HdA X hds' l' → wHd X.K Wout D l' cls d σ' H' →
        wpAny (model X.prog X.w) X.A (handleBy (.ref a) X.env hds') (SP X pins D) X.xe { s' with heap := h3 } := by
      intro hds' l' hk
      induction hk with
      | nil =>
        intro w
        refine wpAny_handleBy_nil ?_
        obtain ⟨k1, k2, k3, oe, vs, T, oT, ts', he, hz, hd, h1, hr⟩ := id fl3
        unfold PySem.passOn
        refine wpAny_bind (wpAny_field he hd h1 ?_)
        rw [if_neg (show ¬ ((Value.ref T == Value.none) = true) from by simp)]
        have fin : wpAny (model X.prog X.w) X.A (setFlight (.ref a) X.env.frame) (fun _ s4 => wpAny (model X.prog X.w) X.A (throw (.ref a) : Sem Flow) (SP X pins D) X.xe s4) X.xe { s' with heap := h3 } := by
          rw [hf]
          refine HandSPX.setFlight_upZ fl3 fun h4 hh4 up4 => wpAny_throw (tk _ _ ?_)
          exact ⟨a, B, sI, pins, σ', H', cls, d, rfl, J, nb, (up.trans up3).trans up4, .inr (.inr (by rw [hs]; exact hh4)), na, os, ag, w⟩
        first
          | exact wpAny_bind (wpAny_pure (wpAny_bind fin))
          | exact wpAny_bind fin
      | @as_ x n c i ts b₀ suite np pos' hds2 l2 hc hi hln hsu r ih =>
        intro w
        obtain ⟨b, hb1, hyes, hno⟩ := w
        refine wpAny_handleBy_cons (codeAny_handlers_test ?_) (by intro q; cases q)
        have LT : PySem.W.Looks (model X.prog X.w) h3 (typeOf (.ref a)) cls := fun A Q E s k q => wpAny_typeOf_ref (k _ _ he3) (by rw [hz3.1]; exact q)
        have LM := PySem.W.exm_one (M := model X.prog X.w) (J3.kIn) LT hb1
        have test : ∀ {Q : Value → Shared → Prop} {E : Value → Shared → Prop}, Q c { s' with heap := h3 } → wpAny (model X.prog X.w) (X.A.mark (some (.ref a))) (eval (.Name x np) X.env) Q E { s' with heap := h3 } := fun {Q E} q => by
          obtain ⟨hg, hdbg, hm | ⟨hm, hv, hnn⟩⟩ := hc
          · exact ld_glob (X := X.suite a ((a, oe3) :: (X.pn ++ pins))) S3 hg hm q hdbg
          · exact ld_blt (X := X.suite a ((a, oe3) :: (X.pn ++ pins))) S3 hg hm hv q hnn hdbg
        refine test (LM.here ?_)
        cases b with
        | true =>
          refine codeAny_handlers_suite_as ?_
          refine HandSPX.lands_againZ fl3 fun h4 fl4 up4 => ?_
          have J4 : Inv X pins σ' H' { s' with heap := h4 } := J.landed nb fl4.1 ((up.trans up3).trans up4) os ag
          obtain ⟨oe4, vs4, he4, hz4, hd4⟩ := fl4.there
          obtain ⟨hxd, hts⟩ := hyes rfl
          obtain ⟨H2, hH, hod⟩ := held_of J4 na ⟨_, hd4⟩ hz4.2 hxd
          have J5 := inv_held J4 n0 he4 nL nC nP nF hH hod
          have S4 := inv_suite J5 a
          refine store_ok (X := X.suite a (X.pn ++ pins)) (v := .ref a) S4 hN hi (.inl hln) rfl (fun s5 S5 => ?_) (.inr hln)
          refine wpAny_mono ((hsu a (X.pn ++ pins)).run [] s5 _ H2 _ S5 (hts a oe4 H2 hz4.1 hH)) (fun f s6 hsp => ?_) (fun _ _ z => False.elim z)
          have end_ : ∀ {σ6 : L2.St} {H6 : Hp} {Q : Shared → Prop}, Inv (X.suite a (X.pn ++ pins)) [] σ6 H6 s6 → (∀ s7, Inv X pins (σ6.set i none) H6 s7 → Q s7) →
              wpAny (model X.prog X.w) X.A (do bindName X.env n .none; unbindBehindTheSuite X.env n pos') (fun _ s7 => Q s7) X.xe s6 := fun {σ6 H6 Q} S6 hq => gone_ok (inv_unsuite S6 ok) hN hi hln hq
          cases f with
          | next =>
            obtain ⟨σ6, H6, S6, q6⟩ := hsp
            exact end_ S6 fun s7 J7 => ⟨_, _, J7, q6⟩
          | brk =>
            obtain ⟨σ6, H6, S6, q6⟩ := hsp
            exact end_ S6 fun s7 J7 => ⟨_, _, J7, q6⟩
          | cont =>
            obtain ⟨σ6, H6, S6, q6⟩ := hsp
            exact end_ S6 fun s7 J7 => ⟨_, _, J7, q6⟩
          | ret u =>
            obtain ⟨v6, σ6, H6, S6, r6, q6⟩ := hsp
            exact end_ S6 fun s7 J7 => ⟨_, _, _, J7, r6, q6⟩
        | false =>
          show wpAny _ X.A (handleBy (.ref a) X.env hds2) _ _ _
          exact ih (hno rfl)
      | @no x c ts b₀ suite np pos' hds2 l2 hc hsu r ih =>
        intro w
        obtain ⟨b, hb1, hyes, hno⟩ := w
        refine wpAny_handleBy_cons (codeAny_handlers_test ?_) (by intro q; cases q)
        have LT : PySem.W.Looks (model X.prog X.w) h3 (typeOf (.ref a)) cls := fun A Q E s k q => wpAny_typeOf_ref (k _ _ he3) (by rw [hz3.1]; exact q)
        have LM := PySem.W.exm_one (M := model X.prog X.w) (J3.kIn) LT hb1
        have test : ∀ {Q : Value → Shared → Prop} {E : Value → Shared → Prop}, Q c { s' with heap := h3 } → wpAny (model X.prog X.w) (X.A.mark (some (.ref a))) (eval (.Name x np) X.env) Q E { s' with heap := h3 } := fun {Q E} q => by
          obtain ⟨hg, hdbg, hm | ⟨hm, hv, hnn⟩⟩ := hc
          · exact ld_glob (X := X.suite a ((a, oe3) :: (X.pn ++ pins))) S3 hg hm q hdbg
          · exact ld_blt (X := X.suite a ((a, oe3) :: (X.pn ++ pins))) S3 hg hm hv q hnn hdbg
        refine test (LM.here ?_)
        cases b with
        | true =>
          refine codeAny_handlers_suite ?_
          refine HandSPX.lands_againZ fl3 fun h4 fl4 up4 => ?_
          have J4 : Inv X pins σ' H' { s' with heap := h4 } := J.landed nb fl4.1 ((up.trans up3).trans up4) os ag
          obtain ⟨oe4, vs4, he4, hz4, hd4⟩ := fl4.there
          obtain ⟨hxd, hts⟩ := hyes rfl
          obtain ⟨H2, hH, hod⟩ := held_of J4 na ⟨_, hd4⟩ hz4.2 hxd
          have J5 := inv_held J4 n0 he4 nL nC nP nF hH hod
          have S4 := inv_suite J5 a
          refine wpAny_mono ((hsu a (X.pn ++ pins)).run [] _ _ H2 _ S4 (hts a oe4 H2 hz4.1 hH)) (fun f s6 hsp => ?_) (fun _ _ z => False.elim z)
          cases f with
          | next =>
            obtain ⟨σ6, H6, S6, q6⟩ := hsp
            exact ⟨_, _, inv_unsuite S6 ok, q6⟩
          | brk =>
            obtain ⟨σ6, H6, S6, q6⟩ := hsp
            exact ⟨_, _, inv_unsuite S6 ok, q6⟩
          | cont =>
            obtain ⟨σ6, H6, S6, q6⟩ := hsp
            exact ⟨_, _, inv_unsuite S6 ok, q6⟩
          | ret u =>
            obtain ⟨v6, σ6, H6, S6, r6, q6⟩ := hsp
            exact ⟨_, _, _, inv_unsuite S6 ok, r6, q6⟩
        | false =>
          show wpAny _ X.A (handleBy (.ref a) X.env hds2) _ _ _
          exact ih (hno rfl)
    exact go hh w
  · cases f with
    | next =>
      obtain ⟨σ', H', J', q⟩ := hsp
      exact wpAny_execs_nil ⟨σ', H', J'.ofTry ok, q⟩
    | brk =>
      obtain ⟨σ', H', J', q⟩ := hsp
      exact ⟨σ', H', J'.ofTry ok, q⟩
    | cont =>
      obtain ⟨σ', H', J', q⟩ := hsp
      exact ⟨σ', H', J'.ofTry ok, q⟩
    | ret u =>
      obtain ⟨v, σ', H', J', r, q⟩ := hsp
      exact ⟨v, σ', H', J'.ofTry ok, r, q⟩
end
end AM
end

section
set_option Elab.async false
set_option linter.all false
set_option autoImplicit false
set_option maxRecDepth 100000
set_option maxHeartbeats 4000000
/-! AM 14: try, an exception's field. -/
namespace AM
open PySem PySem.Spec L2

def hdS (i : Option Nat) (sv : SV) (vs : Loc) : Loc := match i with
  | some j => vs.set j (some sv)
  | none => vs
def clrS (i : Option Nat) (r : RS) : RS := match i with
  | some j => match r with
    | .nx vs M => .nx (vs.set j none) M
    | .bk vs M => .bk (vs.set j none) M
    | .ct vs M => .ct (vs.set j none) M
    | r => r
  | none => r
def noX (r : RS) : RS := match r with
  | .exc _ _ _ _ => .bad
  | r => r
def handC (em : Str → Str → Option Bool) (c : Str) (fs : List (Str × AV)) : List (Str × Option Nat × CS) → Loc → AH → RS
  | [], vs, M => .exc c fs vs M
  | (x, i, s) :: r, vs, M => match em c x with
    | some true => clrS i (noX (s (hdS i (.exc c fs) vs) M))
    | some false => handC em c fs r vs M
    | none => .bad
def tryC (em : Str → Str → Option Bool) (b : CS) (cl : List (Str × Option Nat × CS)) : CS := fun vs M => match b vs M with
  | .exc c fs vs1 M1 => handC em c fs cl vs1 M1
  | r => r
/-- which class a clause takes -/
def EmOk (κ : Cfg) (em : Str → Str → Option Bool) : Prop := ∀ c x b C D, em c x = some b → κ.mg c = some (.ref C) → κ.mg x = some (.ref D) → PySem.W.exmOne κ.K (.ref C) (.ref D) = some b
abbrev WF : WX := fun _ _ _ _ => False
inductive HdE [Tb] (X : Cx) : List ExceptHandler → List (Str × Option Nat × CS) → Prop
  | nil : HdE X [] []
  | as_ {x n : Str} {C : Addr} {i : Nat} {s : CS} {b₀ : Stmt} {suite : List Stmt} {np pos' : Pos} {hds : List ExceptHandler} {l : List (Str × Option Nat × CS)} (hg : Gl X x) (hdb : (x == ("__debug__" : Str)) = false) (hm : X.mg x = some (.ref C)) (hi : X.N[i]? = some n) (hln : X.env.kindOf n = some .local)
      (hsu : ∀ (a : Addr) (pn : List (Addr × Obj)), EvB (X.suite a pn) WF (b₀ :: suite) s) (r : HdE X hds l) : HdE X (.ExceptHandler (some (.Name x np)) (some n) (b₀ :: suite) pos' :: hds) ((x, some i, s) :: l)
  | no {x : Str} {C : Addr} {s : CS} {b₀ : Stmt} {suite : List Stmt} {np pos' : Pos} {hds : List ExceptHandler} {l : List (Str × Option Nat × CS)} (hg : Gl X x) (hdb : (x == ("__debug__" : Str)) = false) (hm : X.mg x = some (.ref C))
      (hsu : ∀ (a : Addr) (pn : List (Addr × Obj)), EvB (X.suite a pn) WF (b₀ :: suite) s) (r : HdE X hds l) : HdE X (.ExceptHandler (some (.Name x np)) none (b₀ :: suite) pos' :: hds) ((x, none, s) :: l)
section
variable {κ : Cfg} {ι : List Addr} {M : AH} {H H2 : Hp} {vs : Loc} {σ : L2.St} {a : Addr} {oe : Obj} {d : Option Addr}
theorem OR.nxd {o : AO} (h : OR κ ι H o a) {gs : List (Str × V)} (e : H a = some (.xd gs)) : False := by
  cases o with
  | lst xs => obtain ⟨vs, h1, h2⟩ := h; rw [e] at h1; cases h1
  | frz xs => obtain ⟨o, vs, h1, h2⟩ := h; rw [e] at h1; cases h1
  | ins c fs => obtain ⟨C, dx, gs, h0, h1, h2, h3⟩ := h; rw [e] at h1; cases h1
  | dct kvs =>
    rcases h with ⟨gs, h1, h2⟩ | ⟨ks, h1, h2, hne⟩
    · rw [e] at h1; cases h1
    · rw [e] at h1; unfold NdO at h1; cases h1
theorem Held.keep (h : Held H a oe d H2) : Keep H H2 := by
  obtain ⟨hn, _, _, ⟨e1, rfl⟩ | ⟨dd, gs, od, e1, nda, e2, rfl⟩⟩ := h
  · exact Keep.new hn
  · refine (Keep.mut (o' := .frz od (.xd gs)) e2 (fun _ z => by cases z) (fun _ _ z => by cases z)).trans (Keep.new ?_)
    rw [upd_ne (Ne.symm nda)]; exact hn
theorem Held.rep (h : Held H a oe d H2) (r : Rep κ ι M H) : Rep κ ι M H2 := by
  have k := h.keep
  have same : ∀ b u, H b = some u → (∀ gs, u ≠ .xd gs) → H2 b = some u := by
    obtain ⟨hn, _, _, ⟨e1, rfl⟩ | ⟨dd, gs, od, e1, nda, e2, rfl⟩⟩ := h
    · exact fun b u e n => by rw [upd_ne (ne_of_none e hn)]; exact e
    · exact fun b u e n => by rw [upd_ne (ne_of_none e hn), upd_ne (fun z => n gs (Option.some.inj (e.symm.trans (by rw [z]; exact e2))))]; exact e
  refine ⟨r.len, r.nd, fun i o b e eb => ?_, fun p hp => (r.tab p hp).keep k fun ps e => same _ _ e fun _ z => by cases z⟩
  have q := r.obj i o b e eb
  obtain ⟨u, h1, _⟩ := q.ntbl
  exact q.mono (List.prefix_refl _) k (by rw [h1]; exact same b u h1 fun gs z => q.nxd (z ▸ h1))
theorem Held.svr {c : Str} {fs : List (Str × AV)} {C : Addr} (h : Held H a oe d H2) (hc : oe.cls = .ref C) (x : ExR κ ι H c fs C d) : SVR κ ι H2 (.exc c fs) (.ref a) := by
  have k := h.keep
  obtain ⟨hn, hv, hd, ⟨e1, rfl⟩ | ⟨dd, gs, od, e1, nda, e2, rfl⟩⟩ := h
  · subst e1
    exact ⟨a, oe, C, rfl, upd_same, hc, hv, x.1, .inl ⟨hd, x.2⟩⟩
  · subst e1
    obtain ⟨gs', g1, g2, g3⟩ := x.2
    rw [e2] at g1; cases g1
    exact ⟨a, oe, C, rfl, upd_same, hc, hv, x.1, .inr ⟨dd, od, gs, hd, by rw [upd_ne nda, upd_same], g2, g3.mono (List.prefix_refl _) k⟩⟩
theorem OutS.clr {W : WX} {D : Ends} {r : RS} (i : Option Nat) (o : OutS κ W ι H D (clrS i (noX r))) : OutS κ WF ι H (endsAt i D) r := by
  have sl : ∀ {j : Nat} {ι' : List Addr} {vs : Loc} {M : AH} {σ' : L2.St} {H' : Hp}, Rel κ ι' vs M σ' H' → Rel κ ι' (vs.set j none) M (σ'.set j none) H' := fun {j ι' vs M σ' H'} h =>
    ⟨⟨by simp [h.sl.len], fun t sv e => by
      by_cases hj : t = j
      · subst hj
        rw [List.getElem?_set] at e
        simp at e
      · rw [List.getElem?_set_ne (Ne.symm hj)] at e ⊢
        exact h.sl.at_ t sv e⟩, h.rep⟩
  cases i with
  | none =>
    cases r with
    | exc c fs vs M => exact o.elim
    | bad => exact o
    | _ => exact o
  | some j =>
    cases r with
    | exc c fs vs M => exact o.elim
    | bad => exact o
    | rt v M => exact o
    | nx vs M => exact fun a b c d e f => o a b _ d e (sl f)
    | bk vs M => exact fun a b c d e f => o a b _ d e (sl f)
    | ct vs M => exact fun a b c d e f => o a b _ d e (sl f)
theorem hd_out {W : WX} {D : Ends} {mg : Str → Option Value} {em : Str → Str → Option Bool} {c : Str} {fs : List (Str × AV)} {C : Addr} (hem : EmOk κ em) {cl : List (Str × Option Nat × CS)} {l : List (Value × Option Nat × TS)}
    (h : Paired (fun (q : Str × Option Nat × CS) (p : Value × Option Nat × TS) => ∃ C, κ.mg q.1 = some (.ref C) ∧ p.1 = .ref C ∧ p.2.1 = q.2.1 ∧ p.2.2 = rdS κ WF q.2.2) cl l) (hr : Rel κ ι vs M σ H) (x : ExR κ ι H c fs C d)
    (o : OutS κ W ι H D (handC em c fs cl vs M)) : wHd κ.K W D l (.ref C) d σ H := by
  induction h with
  | nil => exact o ι H σ C d (List.prefix_refl _) (Keep.refl _) hr x
  | @cons q p cl l q1 t ih =>
    obtain ⟨y, i, s⟩ := q
    obtain ⟨v, i', ts⟩ := p
    obtain ⟨Cy, e1, e2, e3, e4⟩ := q1
    dsimp only at e1 e2 e3 e4
    subst e2 e3 e4
    unfold handC at o
    cases em1 : em c y with
    | none => rw [em1] at o; exact o.elim
    | some b =>
      rw [em1] at o
      refine ⟨b, hem c y b C Cy em1 x.1 e1, fun hb => ?_, fun hb => ?_⟩
      · subst hb
        refine ⟨fun dd e => ?_, fun a oe H2 hcls hh => ?_⟩
        · subst e
          obtain ⟨gs, g1, _⟩ := x.2
          exact ⟨gs, g1⟩
        · have k := hh.keep
          have hs := hh.svr hcls x
          refine ⟨ι, hdS i' (.exc c fs) vs, M, ⟨?_, hh.rep hr.rep⟩, OutS.clr i' (o.base (List.prefix_refl _) k)⟩
          cases i' with
          | none => exact hr.sl.mono (List.prefix_refl _) k
          | some j => exact (hr.sl.mono (List.prefix_refl _) k).set hs
      · subst hb
        exact ih o
end
section
variable [Tb] {X : Cx} {W : WX} {body : List Stmt} {h₀ : ExceptHandler} {hds : List ExceptHandler} {pos : Pos} {k : Nat} {cb : CS} {cl : List (Str × Option Nat × CS)} {em : Str → Str → Option Bool}
theorem HdE.hda {hds : List ExceptHandler} {cl : List (Str × Option Nat × CS)} (h : HdE X hds cl) : ∃ l, HdA X hds l ∧ Paired (fun (q : Str × Option Nat × CS) (p : Value × Option Nat × TS) => ∃ C, (kf X).mg q.1 = some (.ref C) ∧ p.1 = .ref C ∧ p.2.1 = q.2.1 ∧ p.2.2 = rdS (kf X) WF q.2.2) cl l := by
  induction h with
  | nil => exact ⟨[], .nil, .nil⟩
  | as_ hg hdb hm hi hln hsu r ih =>
    obtain ⟨l, a, b⟩ := ih
    exact ⟨_, .as_ ⟨hg, hdb, .inl hm⟩ hi hln (fun a pn => hsu a pn) a, .cons ⟨_, hm, rfl, rfl, rfl⟩ b⟩
  | no hg hdb hm hsu r ih =>
    obtain ⟨l, a, b⟩ := ih
    exact ⟨_, .no ⟨hg, hdb, .inl hm⟩ (fun a pn => hsu a pn) a, .cons ⟨_, hm, rfl, rfl, rfl⟩ b⟩
theorem Bd.tr (B : Bd X W k) {W' : WX} {pn : List (Addr × Obj)} {xe : Value → Shared → Prop} (tk : Takes (X.tr pn xe) W') (own : PassesOwn (model X.prog X.w) X.A X.env xe) : Bd (X.tr pn xe) W' k :=
  ⟨⟨B.calm, B.nd, tk, B.room, B.gd⟩, own, fun ok => B.cb ok.ofTry⟩
theorem es_try (B : Bd X W k) (hem : EmOk (kf X) em) (hb : ∀ (W' : WX) (pn : List (Addr × Obj)) (xe : Value → Shared → Prop), Bd (X.tr pn xe) W' k → EvB (X.tr pn xe) W' body cb) (hh : HdE X (h₀ :: hds) cl)
    (hex : X.ex = [] := by rfl) (hs : X.stack = X.env :: X.outer := by rfl) (hf : X.env.frame = some X.env.locals := by rfl) : EvS X W (.Try body (h₀ :: hds) [] [] pos) (tryC em cb cl) := by
  obtain ⟨l, hA, hP⟩ := hh.hda
  refine PS.imp (ps_tryA (tb := fun W' => rdS (kf X) W' cb) hex hs hf B.nd B.tk (fun W' pn xe tk own => hb W' pn xe (B.tr tk own)) hA) fun D σ H ⟨ι, vs, M, hr, o⟩ => ⟨ι, vs, M, hr, ?_⟩
  unfold tryC at o
  cases e : cb vs M with
  | exc c fs vs1 M1 =>
    rw [e] at o
    exact fun ι' H' σ' C d h1 h2 h3 h4 => hd_out (mg := X.mg) hem hP h3 h4 (o.base h1 h2)
  | nx vs1 M1 => rw [e] at o; exact o
  | bk vs1 M1 => rw [e] at o; exact o
  | ct vs1 M1 => rw [e] at o; exact o
  | rt v M1 => rw [e] at o; exact o
  | bad => rw [e] at o; exact o
/-- e.f, e what the clause holds -/
def exfC (c : Str) (i : Nat) (f : Str) : CE := fun vs M => match vs[i]? with
  | some (some (.exc c' fs)) => if c' = c then match fs.lookup f with
      | some a => .ok a M
      | none => .bad
    else .bad
  | _ => .bad
/-- what the written part says of the class -/
structure ExFld (κ : Cfg) (c f : Str) : Prop where
  ga : ∀ C, κ.mg c = some (.ref C) → PySem.W.findIn κ.K (.ref C) "__getattribute__" = some (some (.builtin "BaseException.__getattribute__")) ∧ (∃ gt, PySem.W.findIn κ.K (.ref C) "__getattr__" = some gt) ∧ PySem.W.subIn κ.K (.ref C) (.type "BaseException") = some true ∧
    PySem.W.hasDictIn κ.K C = true ∧ PySem.W.findIn κ.K (.ref C) f = some none
theorem FR.lookup {κ : Cfg} {ι : List Addr} {H : Hp} : ∀ {fs : List (Str × AV)} {gs : List (Str × V)} {f : Str} {a : AV}, FR κ ι H fs gs → fs.lookup f = some a → ∃ v, gs.lookup f = some v ∧ VR κ ι H a v
  | [], _, _, _, _, e => by cases e
  | (g, x) :: fs, gs, f, a, ⟨h1, h2⟩, e => by
    obtain ⟨v, ws, e2, r, t⟩ := h2.cons_inv
    cases gs with
    | nil => cases e2
    | cons p gs =>
      obtain ⟨g', v'⟩ := p
      simp only [List.map_cons, List.cons.injEq] at h1 e2
      obtain ⟨rfl, h1⟩ := h1
      obtain ⟨rfl, rfl⟩ := e2
      rw [List.lookup_cons] at e ⊢
      cases hb : (f == g) with
      | true => rw [hb] at e; cases e; exact ⟨_, rfl, r⟩
      | false => rw [hb] at e; exact FR.lookup ⟨h1, t⟩ e
theorem FR.lookup_none {κ : Cfg} {ι : List Addr} {H : Hp} {fs : List (Str × AV)} {gs : List (Str × V)} {f : Str} (h : FR κ ι H fs gs) (e : fs.lookup f = none) : gs.lookup f = none := by
  have : ∀ {fs : List (Str × AV)} {gs : List (Str × V)}, fs.map (·.1) = gs.map (·.1) → fs.lookup f = none → gs.lookup f = none := by
    intro fs
    induction fs with
    | nil => intro gs h e; cases gs with
      | nil => rfl
      | cons p gs => cases h
    | cons q fs ih => intro gs h e; cases gs with
      | nil => cases h
      | cons p gs =>
        obtain ⟨g, x⟩ := q
        obtain ⟨g', v⟩ := p
        simp only [List.map_cons, List.cons.injEq] at h
        obtain ⟨rfl, h⟩ := h
        rw [List.lookup_cons] at e ⊢
        cases hb : (f == g) with
        | true => rw [hb] at e; cases e
        | false => rw [hb] at e; exact ih h e
  exact this h.1 e
theorem ev_exf {x c f : Str} {pos p : Pos} (i : Nat) (F : ExFld (kf X) c f) (hN : X.N[i]? = some x := by rfl) (hv : Vis X.env.scope x := by first | exact Or.inl rfl | exact Or.inr (Or.inl rfl) | exact Or.inr (Or.inr rfl)) (hd : (x == ("__debug__" : Str)) = false := by decide +kernel)
    (hcd : (x == ("__classdict__" : Str)) = false := by decide +kernel) (hb : attributeBase (.Name x p) f X.env (eval (.Name x p) X.env) = eval (.Name x p) X.env := by rfl) : EvE X W (.Attribute (.Name x p) f pos) (exfC c i f) := by
  refine ⟨fun pins s σ H Q I ⟨ι, vs, M, hr, o⟩ => ?_⟩
  unfold exfC at o
  split at o
  case h_2 => exact o.elim
  rename_i c' fs ev
  split at o
  case isFalse => exact o.elim
  rename_i hc
  subst hc
  split at o
  case h_2 => exact o.elim
  rename_i b el
  obtain ⟨v, e1, a, oe, C, rfl, e2, e3, ⟨vs', e4⟩, e5, e6⟩ := hr.sl.at_ i _ ev
  refine attr_of hb (thn ((pe_var (pos := p) (i := i) hN hv hd hcd).run pins s σ H (fun v H1 => v = .ref a ∧ H1 = H) I ⟨.ref a, e1, rfl, rfl⟩) fun u s1 ⟨v, H1, I1, rv, ev1, eH⟩ => ?_)
  subst ev1 eH
  obtain rfl : u = Value.ref a := rv
  rcases e6 with ⟨_, z⟩ | ⟨d, od, gs, q1, q2, q3⟩
  · subst z; cases el
  · obtain ⟨g1, ⟨gt, g2⟩, g3, g4, g5⟩ := F.ga C e5
    obtain ⟨w1, l1, rw1⟩ := q3.lookup el
    have ha := (I1.hok a _ e2).1
    obtain ⟨ho, mA, hns, rel⟩ := I1.hok d _ q2
    obtain ⟨u, hu, ru⟩ := RelO.some_of (v := w1) (o := mA f) (by rw [← l1]; exact rel f)
    obtain ⟨od', ho', hl⟩ := lookIn_ns hns
    rw [ho] at ho'; cases ho'
    have J : PySem.W.InstAt s1.heap a oe C (some od) := ⟨ha, e3, by unfold PySem.W.notCls; rw [e4] <;> rfl, by rw [q1]; exact ho⟩
    exact HandSPX.exc_get I1.kIn J g1 g2 g3 (PySem.W.findObj_own g4 g5 rfl (by rw [hl, hu])) (handed_of ru) ⟨w1, H1, I1.tok _, ru, Out.fin hr o rw1⟩
end
end AM
end

section
set_option Elab.async false
set_option linter.all false
set_option autoImplicit false
set_option maxRecDepth 100000
set_option maxHeartbeats 4000000
/-! AM 15: instances; calls with keywords; == of instances and functions. -/
namespace AM
open PySem PySem.Spec L2

/-! ### fields -/
def putA (f : Str) (v : AV) : List (Str × AV) → List (Str × AV)
  | [] => [(f, v)]
  | (g, x) :: r => if g = f then (g, v) :: r else (g, x) :: putA f v r
def fldA (c f : Str) (a : AV) (M : AH) : R AV := match a with
  | .ref i => match M[i]? with
    | some (.ins c' fs) => if c' = c then match fs.lookup f with
        | some v => .ok v M
        | none => .bad
      else .bad
    | _ => .bad
  | _ => .bad
def setF (c f : Str) (o v : AV) (M : AH) : R Unit := match o with
  | .ref i => match M[i]? with
    | some (.ins c' fs) => if c' = c ∧ fs.length < 1000 then .ok () (M.set i (.ins c (putA f v fs))) else .bad
    | _ => .bad
  | _ => .bad
def fldS (c f : Str) (co cv : CE) : CS := fun vs M => thenS ((cv vs M).bind fun v M1 => (co vs M1).bind fun o M2 => setF c f o v M2) vs fun _ M3 => .nx vs M3
structure ClsFld (κ : Cfg) (c f : Str) : Prop where
  ok : ∀ C, κ.mg c = some (.ref C) → Cls κ.K C ∧ NoAttr κ.K C f
theorem FR.put {κ : Cfg} {ι : List Addr} {H : Hp} {f : Str} {a : AV} {v : V} (r : VR κ ι H a v) : ∀ {fs : List (Str × AV)} {gs : List (Str × V)}, FR κ ι H fs gs → FR κ ι H (putA f a fs) (putF f v gs)
  | [], gs, ⟨h1, h2⟩ => by
    cases gs with
    | nil => exact ⟨rfl, .cons r .nil⟩
    | cons p gs => cases h1
  | (g, x) :: fs, gs, ⟨h1, h2⟩ => by
    obtain ⟨w, ws, e2, r2, t⟩ := h2.cons_inv
    cases gs with
    | nil => cases e2
    | cons p gs =>
      obtain ⟨g', v'⟩ := p
      simp only [List.map_cons, List.cons.injEq] at h1 e2
      obtain ⟨rfl, h1⟩ := h1
      obtain ⟨rfl, rfl⟩ := e2
      unfold putA putF
      split
      · exact ⟨by simp [h1], .cons r t⟩
      · obtain ⟨k1, k2⟩ := FR.put r ⟨h1, t⟩
        exact ⟨by simp [k1], .cons r2 k2⟩
theorem FR.mono {κ : Cfg} {ι ι' : List Addr} {H H' : Hp} {fs : List (Str × AV)} {gs : List (Str × V)} (h : FR κ ι H fs gs) (hι : ι <+: ι') (k : Keep H H') : FR κ ι' H' fs gs := ⟨h.1, h.2.mono hι k⟩
section
variable [Tb] {X : Cx} {W : WX} {o e value : Expr} {f c : Str} {pos pos' : Pos} {ce co cv : CE}
theorem ev_fld (F : ClsFld (kf X) c f) (he : EvE X W e ce) (hb : attributeBase e f X.env (eval e X.env) = eval e X.env := by rfl) : EvE X W (.Attribute e f pos) (un1 (fldA c f) ce) :=
  PE.imp (pe_fld he hb) fun σ H Q ⟨ι, vs, M, hr, o⟩ => Out.run hr o fun ι1 a M1 v H1 h1 h2 h3 h4 h5 => by
    unfold fldA at h5
    split at h5
    case h_2 => exact h5.elim
    rename_i i
    split at h5
    case h_2 => exact h5.elim
    rename_i c' fs em
    split at h5
    case isFalse => exact h5.elim
    rename_i hc
    split at h5
    case h_2 => exact h5.elim
    rename_i b el
    subst hc
    rw [vr_ref] at h4
    obtain ⟨p, ep, rfl⟩ := h4
    obtain ⟨C, dx, gs, k0, k1, k2⟩ := h3.rep.at_ em ep
    obtain ⟨w, lw, rw1⟩ := k2.lookup el
    obtain ⟨f1, f2⟩ := F.ok C k0
    exact ⟨p, C, dx, gs, w, rfl, k1, f1, f2, lw, Out.fin h3 h5 rw1⟩
theorem es_fld (F : ClsFld (kf X) c f) (ho : EvE X W o co) (hv : EvE X W value cv) (hs : swapsWith value (some (.Attribute o f pos')) pos.line X.env = pure false := by rfl) : EvS X W (.Assign [.Attribute o f pos'] value pos) (fldS c f co cv) :=
  PS.imp (ps_fld ho hv hs) fun D σ H ⟨ι, vs, M, hr, oo⟩ => by
    have o' : Out (kf X) W (fun _ _ (_ : Unit) (_ : Unit) => True) ι vs σ H (fun _ H' => D.nx σ H') ((cv vs M).bind fun v M1 => (co vs M1).bind fun o M2 => setF c f o v M2) := by
      unfold fldS at oo
      cases e : (cv vs M).bind fun v M1 => (co vs M1).bind fun o M2 => setF c f o v M2 with
      | ok z M1 => rw [e] at oo; exact fun ι' H' b k1 k2 k3 _ => oo ι' H' σ k1 k2 k3
      | exc k fs M1 => rw [e] at oo; exact fun ι' H' C d k1 k2 k3 k4 => oo ι' H' σ C d k1 k2 k3 k4
      | bad => rw [e] at oo; exact oo
    refine Out.run hr o' fun ι1 a M1 v H1 h1 h2 h3 h4 h5 => Out.run h3 h5 fun ι2 b M2 w H2 g1 g2 g3 g4 g5 => ?_
    unfold setF at g5
    split at g5
    case h_2 => exact g5.elim
    rename_i i
    split at g5
    case h_2 => exact g5.elim
    rename_i c' fs em
    split at g5
    case isFalse => exact g5.elim
    rename_i hc
    obtain ⟨rfl, hl⟩ := hc
    rw [vr_ref] at g4
    obtain ⟨p, ep, rfl⟩ := g4
    obtain ⟨C, dx, gs, k0, k1, k2⟩ := g3.rep.at_ em ep
    obtain ⟨f1, f2⟩ := F.ok C k0
    have hlen : fs.length = gs.length := by simpa using congrArg List.length k2.1
    have hk : Keep H2 (upd H2 p (.ins C dx (putF f v gs))) := Keep.mut k1 (fun _ z => by cases z) fun _ _ z => by cases z
    refine ⟨p, C, dx, gs, rfl, k1, f1, f2, by rw [← hlen]; exact hl, ?_⟩
    exact g5 ι2 _ () (List.prefix_refl _) hk (g3.set ep k1 hk ⟨C, dx, _, k0, upd_same, ((k2.mono (List.prefix_refl _) hk).put (h4.mono g1 (g2.trans hk)))⟩ fun _ z => by cases z) True.intro
end

/-! ### an instance is made -/
def madeR (i : Nat) (r : R AV) : R AV := match r with
  | .ok a M => match a with
    | .non => .ok (.ref i) M
    | _ => .bad
  | .exc c fs M => .exc c fs M
  | .bad => .bad
def makeA (c : Str) (n : Nat) (F : List SV → AH → R AV) (as : List AV) (M : AH) : R AV := if as.length + 1 = n then madeR M.length (F (.val (.ref M.length) :: as.map .val) (M ++ [.ins c []])) else .bad
def makeC (c : Str) (n : Nat) (F : List SV → AH → R AV) (r : CA) : CE := fun vs M => (r vs M).bind (makeA c n F)
structure KnI (κ : Cfg) (k : Nat) (c : Str) (n : Nat) (F : List SV → AH → R AV) : Prop where
  ex : ∃ (C f : Addr) (fd : FuncData) (ps : List Str), κ.mg c = some (.ref C) ∧ Mk κ.K C f ∧ FnG κ k f fd ps (spF κ n F) ∧ Binds κ.K fd ps []
section
variable [Tb] {X : Cx} {W : WX} {e : Expr} {es : List Expr} {pos p : Pos} {c : Str} {r : CA} {k n : Nat} {F : List SV → AH → R AV}
theorem guards_make {A : Around} {C : Addr} {us : List Value} {kw : List (Str × Value)} : (A.under (.builtin "type.__call__" ⟨.ref C :: us, kw⟩)).guards = A.guards := by
  cases h : A.guards <;> simp [Around.under, Code.guards, Code.isGuard, guardIds, pushGuards, h]
theorem run_makeS {pins : List (Addr × Obj)} {σ : L2.St} {H : Hp} {s : Shared} {Q : VK} {us : List Value} {vs : List V} {C f : Addr} {fd : FuncData} {ps : List Str} {sp : Sp} (M : Mk X.K C f) (B : Be X W (k + 1)) (F : FnG (kf X) k f fd ps sp) (hb : Binds X.K fd ps [])
    (I : Inv X pins σ H s) (r : Vals vs us)
    (h : ∀ x dx, H x = none → H dx = none → dx ≠ x → sp (.ref x :: vs) (upd (upd H dx (.own x)) x (.ins C dx [])) (fun v H2 => v = .non ∧ Q (.ref x) H2) (WE W σ)) :
    wpAny (model X.prog X.w) X.A (call (.ref C) us) (EP X pins σ Q) X.xe s := by
  have hq := h (s.heap.objs.size + 1) s.heap.objs.size (I.hok.fresh (Nat.le_succ _)) (I.hok.fresh (Nat.le_refl _)) (Nat.ne_of_lt (Nat.lt_succ_self _))
  have I2 := Inv.made (C := C) I
  have r2 : Vals (V.ref (s.heap.objs.size + 1) :: vs) (Value.ref (s.heap.objs.size + 1) :: us) := .cons rfl r
  have hl : (Value.ref (s.heap.objs.size + 1) :: us).length = ps.length := by
    have e := r2.length
    rw [F.len _ _ _ _ hq] at e
    exact e.symm
  have b := hb { s with heap := (s.heap.push PySem.W.emptyDict).push (PySem.W.instObj C s.heap.objs.size) } (Value.ref (s.heap.objs.size + 1) :: us) I2.kIn (by rw [List.append_nil]; exact hl)
  rw [List.append_nil] at b
  refine wpAny_call (make_map (f := f) I.kIn M.makes M.init (beq_iff_eq.mp M.fn) (codeAny_mono (F.run _ X.stack _ _ ⟨Value.ref (s.heap.objs.size + 1) :: us, []⟩ (Value.ref (s.heap.objs.size + 1) :: us) _ _ (WE W σ) (B.room.make C us []) (guards_make.trans B.gd)
    (I2.env0.make C us []) b r2 hq) fun r s' hq' => ?_))
  cases r with
  | error e => exact passAt B.tk σ pins _ _ e s' I2 hq'
  | ok fl =>
    cases fl with
    | ret u =>
      obtain ⟨v, H', I3, rv, ev, q3⟩ := I2.after hq'
      subst ev
      exact ⟨rv, ⟨V.ref (s.heap.objs.size + 1), H', I3, rfl, q3⟩⟩
    | next => exact False.elim hq'
    | brk => exact False.elim hq'
    | cont => exact False.elim hq'
theorem make_goal {ι : List Addr} {vs : Loc} {M : AH} {σ : L2.St} {H : Hp} {Q : VK} {as : List AV} {ws : List V} {C x dx : Addr} (hr : Rel (kf X) ι vs M σ H) (hm : X.mg c = some (.ref C)) (ha : VRs (kf X) ι H as ws) (o : Out (kf X) W (VR (kf X)) ι vs σ H Q (makeA c n F as M))
    (hx : H x = none) (hdx : H dx = none) (hne : dx ≠ x) : spF (kf X) n F (.ref x :: ws) (upd (upd H dx (.own x)) x (.ins C dx [])) (fun v H2 => v = .non ∧ Q (.ref x) H2) (WE W σ) := by
  unfold makeA at o
  split at o
  case isFalse => exact o.elim
  rename_i hl
  have k1 : Keep H (upd H dx (.own x)) := Keep.new hdx
  have hx1 : upd H dx (.own x) x = none := by rw [upd_ne (Ne.symm hne)]; exact hx
  have k2 : Keep (upd H dx (.own x)) (upd (upd H dx (.own x)) x (.ins C dx [])) := Keep.new hx1
  have kk := k1.trans k2
  have rep2 : Rep (kf X) (ι ++ [x]) (M ++ [.ins c []]) (upd (upd H dx (.own x)) x (.ins C dx [])) := (hr.rep.other hdx).snoc hx1 ⟨C, dx, [], hm, upd_same, rfl, .nil⟩
  have sl2 : SLs (kf X) (ι ++ [x]) (upd (upd H dx (.own x)) x (.ins C dx [])) vs σ := hr.sl.mono (List.prefix_append _ _) kk
  have vx : VR (kf X) (ι ++ [x]) (upd (upd H dx (.own x)) x (.ins C dx [])) (.ref M.length) (.ref x) := by
    rw [vr_ref]
    exact ⟨x, by rw [← hr.rep.len]; simp, rfl⟩
  refine ⟨by simp [← ha.length]; exact hl, ι ++ [x], _, _, rep2, .cons (show SVR (kf X) _ _ (.val (.ref M.length)) _ from vx) (paired_val (ha.mono (List.prefix_append _ _) kk)), ?_⟩
  unfold madeR at o
  cases e : F (.val (.ref M.length) :: as.map .val) (M ++ [.ins c []]) with
  | ok a M' =>
    rw [e] at o
    dsimp only at o
    cases a with
    | non =>
      refine fun ι' H' v h1 h2 h3 h4 => ?_
      rw [vr_non] at h4
      refine ⟨h4, o ι' H' _ ((List.prefix_append _ _).trans h1) (kk.trans h2) ⟨sl2.mono h1 h2, h3⟩ (vx.mono h1 h2)⟩
    | _ => exact o.elim
  | exc c' fs M' =>
    rw [e] at o
    exact fun ι' H' C d h1 h2 h3 h4 => o ι' H' C d ((List.prefix_append _ _).trans h1) (kk.trans h2) ⟨sl2.mono h1 h2, h3⟩ h4
  | bad => rw [e] at o; exact o
theorem ev_make (B : Be X W (k + 1)) (hk : KnI (kf X) k c n F) (hg : Gl X c) (ha : EvA X W (e :: es) r) (hdb : (c == ("__debug__" : Str)) = false := by decide +kernel)
    (he : starEach (e :: es) X.env = (false, eval e X.env) :: starEach es X.env := by rfl) (hpl : (backTo pos (starEach es X.env)).any (·.1) = false := by rfl) : EvE X W (.Call (.Name c p) (e :: es) [] pos) (makeC c n F r) := by
  obtain ⟨C, f, fd, ps, h1, h2, h3, h4⟩ := hk.ex
  refine ⟨fun pins s σ H Q I ⟨ι, vs, M, hr, o⟩ => ?_⟩
  refine wpAny_Call_Name_kw (ld_glob I hg h1 ?_ hdb)
  have hq : rdA (kf X) W r σ H fun ws H1 => ∃ ι1 as M1, Rel (kf X) ι1 vs M1 σ H1 ∧ VRs (kf X) ι1 H1 as ws ∧ Out (kf X) W (VR (kf X)) ι1 vs σ H1 Q (makeA c n F as M1) :=
    ⟨ι, vs, M, hr, (Out.bind o).imp fun _ _ _ _ _ _ _ _ _ ⟨ι1, a, M1, g1, g2, g3, g4, g5⟩ => ⟨ι1, a, M1, g3, g4, g5⟩⟩
  refine PySem.W.callWith_K (h₀ := X.base) I.ok.mod.kin h2.kp (thn (ha.run pos pins s σ H _ I hq) fun us s1 ⟨ws, H1, I1, r1, ι1, as, M1, g3, g4, g5⟩ => ⟨I1.kIn, ?_⟩) he hpl
  exact run_makeS h2 B h3 h4 I1 r1 fun x dx a1 a2 a3 => make_goal g3 h1 g4 g5 a1 a2 a3
end

/-! ### keywords -/
def permL {α : Type} (perm : List Nat) (l : List α) : List α := perm.filterMap fun i => l[i]?
theorem permL_vals {vs : List V} {us : List Value} (h : Vals vs us) : ∀ (perm : List Nat), Vals (permL perm vs) (permL perm us)
  | [] => .nil
  | i :: perm => by
    unfold permL
    rw [List.filterMap_cons, List.filterMap_cons]
    cases e : vs[i]? with
    | none =>
      have e2 : us[i]? = none := by rw [List.getElem?_eq_none_iff] at e ⊢; rw [← Paired.length h]; exact e
      rw [e2]
      exact permL_vals h perm
    | some v =>
      obtain ⟨u, eu, ru⟩ := h.get e
      rw [eu]
      exact .cons ru (permL_vals h perm)
theorem permL_vrs {κ : Cfg} {ι : List Addr} {H : Hp} {as : List AV} {ws : List V} (h : VRs κ ι H as ws) : ∀ (perm : List Nat), VRs κ ι H (permL perm as) (permL perm ws)
  | [] => .nil
  | i :: perm => by
    unfold permL
    rw [List.filterMap_cons, List.filterMap_cons]
    cases e : as[i]? with
    | none =>
      rw [h.none e]
      exact permL_vrs h perm
    | some a =>
      obtain ⟨v, ev, rv⟩ := h.get e
      rw [ev]
      exact .cons rv (permL_vrs h perm)
/-- a def that is called with keywords: j positional values, the keywords ks -/
structure KnW (κ : Cfg) (k : Nat) (x : Str) (n : Nat) (F : List SV → AH → R AV) (j : Nat) (ks : List Str) (perm : List Nat) : Prop where
  ex : ∃ (f : Addr) (fd : FuncData) (ps : List Str), κ.mg x = some (.ref f) ∧ PySem.W.keepIn κ.K (.ref f) = true ∧ FnG κ k f fd ps (spF κ n F) ∧ KBn κ.K fd ps j ks (fun us ws => permL perm (us ++ ws)) (fun us ws => permL perm (us ++ ws))
def kwA (n : Nat) (F : List SV → AH → R AV) (perm : List Nat) (as bs : List AV) (M : AH) : R AV := if (permL perm (as ++ bs)).length = n then F ((permL perm (as ++ bs)).map .val) M else .bad
def callK (n : Nat) (F : List SV → AH → R AV) (j m : Nat) (perm : List Nat) (r rk : CA) : CE := fun vs M => (r vs M).bind fun as M1 => (rk vs M1).bind fun bs M2 => if as.length = j ∧ bs.length = m then kwA n F perm as bs M2 else .bad
section
variable [Tb] {X : Cx} {W : WX} {e : Expr} {es : List Expr} {pos p kpos : Pos} {x : Str} {nm : Option Str} {kws : List Keyword} {r rk : CA} {ce : CE} {k n j : Nat} {F : List SV → AH → R AV} {ks : List Str} {perm : List Nat}
abbrev EvK [Tb] (X : Cx) (W : WX) (kws : List Keyword) (r : CA) : Prop := PK X kws (rdA (kf X) W r)
theorem PK.imp {t t' : TA} (h : PK X kws t) (k : ∀ σ H Q, t' σ H Q → t σ H Q) : PK X kws t' := ⟨fun pos pins s σ H Q I q => h.run pos pins s σ H Q I (k σ H Q q)⟩
theorem ek_nil : EvK X W [] nilA := PK.imp pk_nil fun σ H Q ⟨ι, vs, M, hr, o⟩ => Out.fin hr o .nil
theorem ek_cons (ha : EvE X W e ce) (hr : EvK X W kws r) : EvK X W (⟨nm, e, kpos⟩ :: kws) (consA ce r) :=
  PK.imp (pk_cons ha hr) fun σ H Q ⟨ι, vs, M, hr, o⟩ => Out.run hr o fun ι1 a M1 v H1 h1 h2 h3 h4 h5 => Out.run h3 h5 fun ι2 as M2 ws H2 g1 g2 g3 g4 g5 => Out.fin g3 g5 (.cons (h4.mono g1 g2) g4)
theorem run_kw {f : Addr} {fd : FuncData} {ps : List Str} {pins : List (Addr × Obj)} {σ : L2.St} {H : Hp} {s : Shared} {Q : VK} {us vs' : List Value} {zs ws : List V} {ι : List Addr} {vs : Loc} {M : AH} {as bs : List AV} (B : Be X W k)
    (h3 : FnG (kf X) k f fd ps (spF (kf X) n F)) (h4 : KBn X.K fd ps j ks (fun us ws => permL perm (us ++ ws)) (fun us ws => permL perm (us ++ ws))) (I : Inv X pins σ H s) (r1 : Vals zs us) (r2 : Vals ws vs') (l1 : us.length = j) (l2 : vs'.length = ks.length)
    (hr : Rel (kf X) ι vs M σ H) (ha : VRs (kf X) ι H as zs) (hb : VRs (kf X) ι H bs ws) (o : Out (kf X) W (VR (kf X)) ι vs σ H Q (kwA n F perm as bs M)) : wpAny (model X.prog X.w) X.A (call (.ref f) us (ks.zip vs')) (EP X pins σ Q) X.xe s := by
  unfold kwA at o
  split at o
  case isFalse => exact o.elim
  rename_i hl
  have hp := permL_vrs (ha.app hb) perm
  have hsp : spF (kf X) n F (permL perm (zs ++ ws)) H Q (WE W σ) := ⟨by rw [← hp.length]; exact hl, ι, M, _, hr.rep, paired_val hp, OutF.ofOut hr.sl (fun _ _ _ => Iff.rfl) o⟩
  refine wpAny_call (codeAny_mono (h3.run X.A X.stack s H ⟨us, ks.zip vs'⟩ _ _ Q (WE W σ) B.room B.gd I.env0 (h4.to s us vs' I.kIn l1 l2) (h4.rel r1 r2) hsp) fun rr s' hq => ?_)
  cases rr with
  | error e => exact passAt B.tk σ pins H s e s' I hq
  | ok fl =>
    cases fl with
    | ret u => exact I.after hq
    | next => exact False.elim hq
    | brk => exact False.elim hq
    | cont => exact False.elim hq
theorem ev_callK (B : Be X W k) (hk : KnW (kf X) k x n F j ks perm) (hg : Gl X x) (ha : EvA X W (e :: es) r) (hkw : EvK X W kws rk) (hall : (backToKw pos (keywordEach kws X.env)).all (·.1.isSome) = true := by rfl) (hks : (backToKw pos (keywordEach kws X.env)).filterMap (·.1) = ks := by rfl)
    (hdb : (x == ("__debug__" : Str)) = false := by decide +kernel) (he : starEach (e :: es) X.env = (false, eval e X.env) :: starEach es X.env := by rfl)
    (hpl : ((backTo pos (starEach (e :: es) X.env)).any (·.1) || (backToKw pos (keywordEach kws X.env)).any (·.1.isNone)) = false := by rfl) : EvE X W (.Call (.Name x p) (e :: es) kws pos) (callK n F j ks.length perm r rk) := by
  obtain ⟨f, fd, ps, h1, h2, h3, h4⟩ := hk.ex
  refine ⟨fun pins s σ H Q I ⟨ι, vs, M, hr, o⟩ => ?_⟩
  refine wpAny_Call_Name_kw (ld_glob I hg h1 ?_ hdb)
  have hq : rdA (kf X) W r σ H fun zs H1 => rdA (kf X) W rk σ H1 fun ws H2 => ∃ ι1 as bs M1, Rel (kf X) ι1 vs M1 σ H2 ∧ VRs (kf X) ι1 H2 as zs ∧ VRs (kf X) ι1 H2 bs ws ∧ Out (kf X) W (VR (kf X)) ι1 vs σ H2 Q (if as.length = j ∧ bs.length = ks.length then kwA n F perm as bs M1 else .bad) :=
    Out.run hr o fun ι1 as M1 zs H1 a1 a2 a3 a4 a5 => Out.run a3 a5 fun ι2 bs M2 ws H2 b1 b2 b3 b4 b5 => ⟨ι2, as, bs, M2, b3, a4.mono b1 b2, b4, b5⟩
  refine PySem.W.callWith_KW (h₀ := X.base) I.ok.mod.kin h2 hall (thn (ha.run pos pins s σ H _ I hq) fun us s1 ⟨zs, H1, I1, r1, q⟩ => ?_) hpl he
  refine thn (hkw.run pos pins s1 σ H1 _ I1 q) fun us2 s2 ⟨ws, H2, I2, r2, ι1, as, bs, M1, g1, g2, g3, g4⟩ => ⟨I2.kIn, ?_⟩
  rw [hks]
  split at g4
  case isFalse => exact g4.elim
  rename_i hl
  show wpAny _ _ (call (.ref f) us (ks.zip us2)) _ _ _
  exact run_kw B h3 h4 I2 r1 r2 (by rw [← Paired.length r1, ← g2.length]; exact hl.1) (by rw [← Paired.length r2, ← g3.length]; exact hl.2) g1 g2 g3 g4
theorem ev_callK0 (B : Be X W k) (hk : KnW (kf X) k x n F 0 ks perm) (hg : Gl X x) (hkw : EvK X W kws rk) (hall : (backToKw pos (keywordEach kws X.env)).all (·.1.isSome) = true := by rfl) (hks : (backToKw pos (keywordEach kws X.env)).filterMap (·.1) = ks := by rfl)
    (hdb : (x == ("__debug__" : Str)) = false := by decide +kernel)
    (hpl : ((backTo pos (starEach [] X.env)).any (·.1) || (backToKw pos (keywordEach kws X.env)).any (·.1.isNone)) = false := by rfl) : EvE X W (.Call (.Name x p) [] kws pos) (callK n F 0 ks.length perm nilA rk) := by
  obtain ⟨f, fd, ps, h1, h2, h3, h4⟩ := hk.ex
  refine ⟨fun pins s σ H Q I ⟨ι, vs, M, hr, o⟩ => ?_⟩
  refine wpAny_Call_Name_kw (ld_glob I hg h1 ?_ hdb)
  have o : Out (kf X) W (VR (kf X)) ι vs σ H Q ((rk vs M).bind fun bs M2 => if ([] : List AV).length = 0 ∧ bs.length = ks.length then kwA n F perm [] bs M2 else .bad) := o
  have hq : rdA (kf X) W rk σ H fun ws H2 => ∃ ι1 bs M1, Rel (kf X) ι1 vs M1 σ H2 ∧ VRs (kf X) ι1 H2 bs ws ∧ Out (kf X) W (VR (kf X)) ι1 vs σ H2 Q (if ([] : List AV).length = 0 ∧ bs.length = ks.length then kwA n F perm [] bs M1 else .bad) :=
    Out.run hr o fun ι2 bs M2 ws H2 b1 b2 b3 b4 b5 => ⟨ι2, bs, M2, b3, b4, b5⟩
  refine PySem.W.callWith_KW0 (h₀ := X.base) I.ok.mod.kin h2 hall ?_ hpl
  refine thn (hkw.run pos pins s σ H _ I hq) fun us2 s2 ⟨ws, H2, I2, r2, ι1, bs, M1, g1, g3, g4⟩ => ⟨I2.kIn, ?_⟩
  rw [hks]
  split at g4
  case isFalse => exact g4.elim
  rename_i hl
  show wpAny _ _ (call (.ref f) [] (ks.zip us2)) _ _ _
  exact run_kw B h3 h4 I2 .nil r2 rfl (by rw [← Paired.length r2, ← g3.length]; exact hl.2) g1 .nil g3 g4
end

/-! ### == -/
def blR (r : R AV) : R AV := match r with
  | .ok (.bl k) M => .ok (.bl k) M
  | _ => .bad
def insOf (M : AH) (i : Nat) : Option Str := match M[i]? with
  | some (.ins c _) => some c
  | _ => none
/-- data, functions (those named), instances of c by their own == -/
def opEqW (fns : List Str) (c : Str) (F : List SV → AH → R AV) (a b : AV) (M : AH) : R AV := match a, b with
  | .glo x, .glo y => if x = y ∧ x ∈ fns then .ok (.bl true) M else .bad
  | .ref i, .ref j => if insOf M i = some c ∧ insOf M j = some c then blR (F [.val (.ref i), .val (.ref j)] M) else opEq (.ref i) (.ref j) M
  | a, b => opEq a b M
theorem slot_fn_eq : Slot "function" (cmpInfo .Eq).2.1 "object.__eq__" :=
  .of (owner := "object") (n := "__eq__") (by rw [typeLookup_type, builtinLookup_eq_fast]; kernel_rfl) (by decide +kernel) (by decide +kernel) (by decide +kernel)
    (by first | exact .inl (by decide +kernel) | exact .inr (by decide +kernel)) (by rw [isSubtype_type]; kernel_rfl)
structure KnEq (κ : Cfg) (k : Nat) (c : Str) (F : List SV → AH → R AV) : Prop where
  ex : ∀ C, κ.mg c = some (.ref C) → ∃ (f : Addr) (fd : FuncData) (ps : List Str), PySem.W.findIn κ.K (.ref C) "__eq__" = some (some (.ref f)) ∧ PySem.W.isFn κ.K (.ref f) = true ∧ FnG κ k f fd ps (spF κ 2 F) ∧ Binds κ.K fd ps []
/-- these global names are functions -/
structure GloFn (κ : Cfg) (fns : List Str) : Prop where
  ok : ∀ x f, x ∈ fns → κ.mg x = some (.ref f) → ∃ o, κ.K.lookup f = some o ∧ o.cls = .type "function"
section
variable [Tb] {X : Cx} {W : WX} {k : Nat} {c : Str} {F : List SV → AH → R AV} {fns : List Str}
theorem ok_eqW (B : Be X W k) (G : GloFn (kf X) fns) (E : KnEq (kf X) k c F) : OpR X (compareOp .Eq) (rd2 (kf X) W (opEqW fns c F)) := by
  intro pins s σ0 H x y v u Q I rx ry ⟨ι, vs, M, σ, a, b, hr, ha, hb, o⟩
  have base : ∀ {a b : AV}, VR (kf X) ι H a x → VR (kf X) ι H b y → Out (kf X) W (VR (kf X)) ι vs σ H Q (opEq a b M) → wpAny (model X.prog X.w) X.A (compareOp .Eq v u) (EP X pins σ0 Q) X.xe s := fun ha hb o =>
    ok_eq B.room.units pins s σ0 H x y v u Q I rx ry ⟨ι, vs, M, σ, _, _, hr, ha, hb, o⟩
  unfold opEqW at o
  split at o
  · split at o
    case isFalse => exact o.elim
    rename_i hxy
    obtain ⟨rfl, hm⟩ := hxy
    rw [vr_glo] at ha hb
    obtain ⟨f, e1, rfl⟩ := ha
    obtain ⟨g, e2, rfl⟩ := hb
    rw [e1] at e2; cases e2
    cases rx; cases ry
    obtain ⟨of, l1, l2⟩ := G.ok _ _ hm e1
    have hT : s.TypeIs (.ref f) "function" := ⟨of, I.kIn _ _ l1, l2⟩
    show wpAny _ _ (richCompare .Eq _ _) _ _ s
    exact wpAny_richCompare_same_room (T := "function") hT hT slot_fn_eq
      (GQ.call_here slot_fn_eq hT PySem.F.entry_object_eq (PySem.F.args_object_eq_2 _ _) (objEq_entry_same (show (Value.bool true ≠ .notImplemented ∧ EP X pins σ0 Q (.bool true) s) from ⟨(by intro e; cases e), .bl true, H, I, rfl, Out.fin hr o (by rw [vr_bl])⟩))) B.room.units0
  · split at o
    case isFalse => exact base ha hb o
    rename_i i j hij
    obtain ⟨h1, h2⟩ := hij
    have ge : ∀ {i : Nat} {p : Addr}, insOf M i = some c → ι[i]? = some p → ∃ C dx gs, X.mg c = some (.ref C) ∧ H p = some (.ins C dx gs) := fun {i p} h ei => by
      unfold insOf at h
      split at h
      case h_2 => cases h
      rename_i c' fs em
      cases h
      obtain ⟨C, dx, gs, k0, k1, _⟩ := hr.rep.at_ em ei
      exact ⟨C, dx, gs, k0, k1⟩
    have ha' := ha
    have hb' := hb
    rw [vr_ref] at ha hb
    obtain ⟨p, ep, rfl⟩ := ha
    obtain ⟨q, eq, rfl⟩ := hb
    obtain ⟨C, dx, gs, m1, hp⟩ := ge h1 ep
    obtain ⟨D, dy, gs', m2, hq⟩ := ge h2 eq
    rw [m1] at m2; cases m2
    cases rx; cases ry
    obtain ⟨f, fd, ps, f1, f2, f3, f4⟩ := E.ex C m1
    obtain ⟨mA, J, _⟩ := ins_get I.hok hp
    obtain ⟨mB, J', _⟩ := ins_get I.hok hq
    obtain ⟨od, J, _⟩ := J.look
    obtain ⟨od', J', _⟩ := J'.look
    obtain ⟨m, hF⟩ := I.fr
    show wpAny _ _ (richCompare .Eq _ _) _ _ s
    refine PySem.W.cmp_K (op := .Eq) (tb := .ref C) B.room.units0 hF I.ok.mod.kin J J'.type (by simp [PySem.W.notFirst]) f1 f2 ?_
    have hsp : spF (kf X) 2 F [.ref p, .ref q] H (fun v H' => (∃ k, v = .bl k) ∧ Q v H') (fun _ _ _ => False) := by
      refine ⟨rfl, ι, M, _, hr.rep, .cons (show SVR (kf X) ι H (.val (.ref i)) _ from ha') (.cons (show SVR (kf X) ι H (.val (.ref j)) _ from hb') .nil), ?_⟩
      unfold blR at o
      cases e : F [.val (.ref i), .val (.ref j)] M with
      | ok a M' =>
        rw [e] at o
        cases a with
        | bl kk =>
          refine fun ι' H' v h1 h2 h3 h4 => ?_
          have h4' := h4
          rw [vr_bl] at h4'
          exact ⟨⟨kk, h4'⟩, o ι' H' v h1 h2 ⟨hr.sl.mono h1 h2, h3⟩ h4⟩
        | _ => exact o.elim
      | exc c' fs M' => rw [e] at o; exact o.elim
      | bad => rw [e] at o; exact o
    have hl := f3.len _ _ _ _ hsp
    have r2 : Vals [V.ref p, V.ref q] [Value.ref p, Value.ref q] := .cons rfl (.cons rfl .nil)
    refine wpAny_call (codeAny_mono (f3.run X.A X.stack s H ⟨[.ref p, .ref q], []⟩ [.ref p, .ref q] [.ref p, .ref q] _ (fun _ _ _ => False) B.room B.gd I.env0 (by
      have := f4 s [.ref p, .ref q] I.kIn (by simpa using hl)
      simpa using this) r2 hsp) fun r s' hq => ?_)
    cases r with
    | error e => exact B.tk e s' (XE.of_call I (fun _ _ _ h => h.elim) hq)
    | ok fl =>
      cases fl with
      | ret w =>
        obtain ⟨z, H', I', rz, ⟨kk, ez⟩, ex⟩ := I.after hq
        subst ez
        cases rz
        exact ⟨.bl kk, H', I', rfl, ex⟩
      | next => exact False.elim hq
      | brk => exact False.elim hq
      | cont => exact False.elim hq
  · exact base ha hb o
end
end AM
end

section
set_option Elab.async false
set_option linter.all false
set_option autoImplicit false
set_option maxRecDepth 100000
set_option maxHeartbeats 4000000
/-! AM 16: isinstance. -/
namespace AM
open PySem PySem.Spec

theorem slot_fn_getattribute : Slot "function" "__getattribute__" "object.__getattribute__" :=
  .of (owner := "object") (n := "__getattribute__") (by rw [typeLookup_type, builtinLookup_eq_fast]; kernel_rfl) (by decide +kernel) (by decide +kernel) (by decide +kernel)
    (by first | exact .inl (by decide +kernel) | exact .inr (by decide +kernel)) (by rw [isSubtype_type]; kernel_rfl)
theorem lk_fn_class : typeLookup (.type "function") "__class__" = pure (some (.builtin "object.__class__")) := by rw [typeLookup_type, builtinLookup_eq_fast]; kernel_rfl
theorem sub_fn_class_owner : isSubtype (.type "function") (.type (".".intercalate ("object.__class__".cutAt '.').dropLast)) = pure true := by
  rw [F.owner_object_class, isSubtype_type]; kernel_rfl
section
variable {prog : Program} {w : World} {A : Around} {E : Value → Shared → Prop} {h : Heap} {g : Array GenState} {d : Drawn} {t : Nat} {os : OsState} {a : Addr} {o : Obj}
theorem class_get_fn {R : Result → Shared → Prop} (hx : h.get? a = some o) (hc : o.cls = .type "function") (hq : R (.ok (.ret (.type "function"))) ⟨h, g, d, t, os⟩) :
    codeAny (model prog w) A (.call (.builtin "getset_descriptor.__get__") ⟨[.builtin "object.__class__", .ref a, .type "function"], []⟩) R ⟨h, g, d, t, os⟩ := by
  have hT : (⟨h, g, d, t, os⟩ : Shared).TypeIs (.ref a) "function" := ⟨_, hx, hc⟩
  have hT5 : (⟨h, g, d, t, os⟩ : Shared).TypeIs (.builtin "object.__class__") "getset_descriptor" := F.typeOf_object_class
  have f8 := sub_fn_class_owner
  refine codeAny_call_builtin F.slot_gs_get.plain F.entry_gs_get (F.slot_gs_get.check _ _ _ _ _ _ _ _ hT5 (F.args_gs_get _ _ _) ?_)
  repeat (any_goals (first | assumption | wp_step))
  refine ⟨Code.quiet_builtin _ (by decide +kernel), codeAny_builtin F.entry_object_class ?_⟩
  repeat (any_goals (first | assumption | wp_step))
theorem class_entry_fn {tk : Tok} {Q : Fin → Shared → Prop} (hx : h.get? a = some o) (hc : o.cls = .type "function") (hq : Q (.done (.ret (.type "function"))) ⟨h, g, d, t, os⟩) :
    wpAny (model prog w) A (Builtin.«object.__getattribute__» ⟨[.ref a, .str "__class__" tk], []⟩) Q E ⟨h, g, d, t, os⟩ := by
  have hT : (⟨h, g, d, t, os⟩ : Shared).TypeIs (.ref a) "function" := ⟨_, hx, hc⟩
  have hT5 : (⟨h, g, d, t, os⟩ : Shared).TypeIs (.builtin "object.__class__") "getset_descriptor" := F.typeOf_object_class
  have f4 := lk_fn_class
  have f5 := F.typeOf_object_class
  have f6 := F.slot_gs_get.lookup
  have f7 := F.slot_gs_set.lookup
  repeat (any_goals (first | assumption | wp_step))
  refine class_get_fn hx hc ?_
  repeat (any_goals (first | assumption | wp_step))
theorem class_call_fn {tk : Tok} {R : Result → Shared → Prop} (hx : h.get? a = some o) (hc : o.cls = .type "function") (hq : R (.ok (.ret (.type "function"))) ⟨h, g, d, t, os⟩) :
    codeAny (model prog w) A (.call (.builtin "object.__getattribute__") ⟨[.ref a, .str "__class__" tk], []⟩) R ⟨h, g, d, t, os⟩ :=
  codeAny_call_builtin slot_fn_getattribute.plain F.entry_object_getattribute (slot_fn_getattribute.check _ _ _ _ _ _ _ _ (show (⟨h, g, d, t, os⟩ : Shared).TypeIs (.ref a) "function" from ⟨_, hx, hc⟩) (F.args_object_getattribute_2 _ _) (class_entry_fn hx hc hq))
theorem class_by_fn {tk : Tok} {Q : Value → Shared → Prop} (hx : h.get? a = some o) (hc : o.cls = .type "function") (hq : Q (.type "function") ⟨h, g, d, t, os⟩) : wpAny (model prog w) A (getAttrBy (.ref a) (.str "__class__" tk) false) Q E ⟨h, g, d, t, os⟩ := by
  have hT : (⟨h, g, d, t, os⟩ : Shared).TypeIs (.ref a) "function" := ⟨_, hx, hc⟩
  have f2 := slot_fn_getattribute.lookup
  have f3 := slot_fn_getattribute.bind (.ref a)
  repeat (any_goals (first | assumption | wp_step))
  refine class_call_fn hx hc ?_
  repeat (any_goals (first | assumption | wp_step))
theorem class_attr_fn {Q : Option Value → Shared → Prop} (hx : h.get? a = some o) (hc : o.cls = .type "function") (hq : Q (some (.type "function")) ⟨h, g, d, t + 1, os⟩) : wpAny (model prog w) A (getAttr? (.ref a) "__class__") Q E ⟨h, g, d, t, os⟩ := by
  unfold getAttr? getAttrBy?
  repeat (any_goals (first | assumption | with_reducible apply class_by_fn hx hc | wp_step))
end
theorem kitx_fn {K : PySem.W.Frag} {a : Addr} : PySem.W.KitX K (.ref a) (.type "function") (PySem.W.KitAt a "function") :=
  PySem.W.kitx_of PySem.W.kitAt_ty (fun {_ _ _ _ _ s} p k => by obtain ⟨h, g, d, t, os⟩ := s; obtain ⟨o, h1, h2⟩ := p; exact class_attr_fn h1 h2 k)

open L2
/-- kinds -/
inductive AT where
  | non | bl | int | str | tup | lst | dct | fn | own (c : Str)
def AT.nm : AT → String
  | .non => "NoneType" | .bl => "bool" | .int => "int" | .str => "str" | .tup => "tuple" | .lst => "list" | .dct => "dict" | .fn => "function" | .own _ => ""
def tyA (fns ws : List Str) (M : AH) : AV → Option AT
  | .non => some .non
  | .bl _ => some .bl
  | .int _ => some .int
  | .str _ => some .str
  | .tup _ => some .tup
  | .glo x => if x ∈ fns then some .fn else none
  | .ref i => match M[i]? with
    | some (.lst _) => some .lst
    | some (.frz _) => some .lst
    | some (.dct _) => some .dct
    | some (.ins c _) => if c ∈ ws then some (.own c) else none
    | none => none
  | .ty _ => none
def isBi (t : AT) (b : String) : Option Bool := match b with
  | "int" => some (match t with | .int => true | .bl => true | _ => false)
  | "bool" => some (match t with | .bl => true | _ => false)
  | "list" => some (match t with | .lst => true | _ => false)
  | "tuple" => some (match t with | .tup => true | _ => false)
  | "dict" => some (match t with | .dct => true | _ => false)
  | "str" => some (match t with | .str => true | _ => false)
  | _ => none
def isOne (ws : List Str) (t : AT) : AV → Option Bool
  | .ty b => isBi t b
  | .glo d => if d ∈ ws then match t with
      | .own c => if c = d then some true else none
      | _ => some false
    else none
  | _ => none
def isAny (ws : List Str) (t : AT) : List AV → Option Bool
  | [] => some false
  | c :: r => match isOne ws t c with
    | some true => some true
    | some false => isAny ws t r
    | none => none
def isCls (ws : List Str) (t : AT) (c : AV) : Option Bool := match c with
  | .tup cs => isAny ws t cs
  | c => isOne ws t c
def isA (fns ws : List Str) (as : List AV) (M : AH) : R AV := match as with
  | [x, c] => match tyA fns ws M x with
    | some t => match isCls ws t c with
      | some b => .ok (.bl b) M
      | none => .bad
    | none => .bad
  | _ => .bad
def biL : List String := ["int", "bool", "list", "tuple", "dict", "str"]
/-- what the written part says of own classes -/
structure IsF (κ : Cfg) (ws : List Str) : Prop where
  ok : ∀ c C, c ∈ ws → κ.mg c = some (.ref C) → Cls κ.K C ∧ PySem.W.findIn κ.K (.ref C) "__class__" = some (some (.builtin "object.__class__")) ∧ PySem.W.specialIn κ.K (.builtin "object.__class__") "__get__" = some (some (.builtin "getset_descriptor.__get__")) ∧
    PySem.W.takesIn κ.K (.builtin "object.__class__") = some true ∧ PySem.W.mroIn κ.K C (.type "object") = some true ∧ (∀ b ∈ biL, PySem.W.kitOne κ.K (.ref C) (.type b) = some false) ∧
    (∀ a ∈ ["NoneType", "bool", "int", "str", "tuple", "list", "dict", "function"], PySem.W.kitOne κ.K (.type a) (.ref C) = some false)
/-- a kind's class -/
def TV (κ : Cfg) : AT → Value → Prop
  | .own c, v => ∃ C, κ.mg c = some (.ref C) ∧ v = .ref C
  | t, v => v = .type t.nm
def CV (κ : Cfg) : AV → Value → Prop
  | .ty b, v => v = .type b
  | .glo d, v => ∃ D, κ.mg d = some (.ref D) ∧ v = .ref D
  | _, _ => False
theorem kitB_ok {K : PySem.W.Frag} {a b : String} {r : Bool} (h : kitB a b = some r) : PySem.W.kitOne K (.type a) (.type b) = some r := h
theorem one_ok {κ : Cfg} {ws : List Str} (F : IsF κ ws) {t : AT} {tv : Value} (ht : TV κ t tv) (hw : ∀ c, t = .own c → c ∈ ws) {c : AV} {cv : Value} {b : Bool} (hc : CV κ c cv) (e : isOne ws t c = some b) : PySem.W.kitOne κ.K tv cv = some b := by
  cases c with
  | ty y =>
    have hc : cv = .type y := hc
    subst hc
    have e : isBi t y = some b := e
    unfold isBi at e
    split at e
    all_goals first | (cases e; done) | skip
    all_goals
      injection e with e
      subst e
      cases t with
      | own c =>
        obtain ⟨C, m, rfl⟩ := ht
        exact (F.ok c C (hw c rfl) m).2.2.2.2.2.1 _ (by decide)
      | _ =>
        have ht : tv = .type _ := ht
        subst ht
        exact kitB_ok (by decide +kernel)
  | glo d =>
    obtain ⟨D, m, rfl⟩ := hc
    unfold isOne at e
    dsimp only at e
    split at e
    case isFalse => cases e
    rename_i hd
    cases t with
    | own c =>
      dsimp only at e
      split at e
      case isFalse => cases e
      rename_i hcd
      subst hcd
      cases e
      obtain ⟨C, m', rfl⟩ := ht
      rw [m] at m'; cases m'
      unfold PySem.W.kitOne
      simp
    | _ =>
      cases e
      have ht : tv = .type _ := ht
      subst ht
      exact (F.ok d D hd m).2.2.2.2.2.2 _ (by decide)
  | _ => exact hc.elim
theorem any_ok {κ : Cfg} {ws : List Str} (F : IsF κ ws) {t : AT} {tv : Value} (ht : TV κ t tv) (hw : ∀ c, t = .own c → c ∈ ws) : ∀ {cs : List AV} {cvs : List Value} {b : Bool}, Paired (CV κ) cs cvs → isAny ws t cs = some b → PySem.W.kitAny κ.K tv cvs = some b
  | _, _, b, .nil, e => e
  | _, _, b, .cons h r, e => by
    unfold isAny at e
    unfold PySem.W.kitAny
    split at e
    · rename_i e1; rw [one_ok F ht hw h e1]; exact e
    · rename_i e1; rw [one_ok F ht hw h e1]; exact any_ok F ht hw r e
    · cases e
section
variable [Tb] {X : Cx} {W : WX} {fns ws : List Str}
theorem one_cv {κ : Cfg} {ι : List Addr} {H : Hp} {t : AT} {c : AV} {b : Bool} {v : V} {u : Value} (e : isOne ws t c = some b) (h : VR κ ι H c v) (r : RelV v u) : CV κ c u := by
  cases c with
  | ty y => rw [vr_ty] at h; subst h; exact r
  | glo d => rw [vr_glo] at h; obtain ⟨f, m, rfl⟩ := h; cases r; exact ⟨f, m, rfl⟩
  | _ => cases e
theorem any_cv {κ : Cfg} {ι : List Addr} {H : Hp} {t : AT} : ∀ {cs : List AV} {b : Bool} {vs : List V} {us : List Value}, isAny ws t cs = some b → VRs κ ι H cs vs → Vals vs us → ∃ cs' us', isAny ws t cs' = some b ∧ Paired (CV κ) cs' us' ∧ ∃ more, us = us' ++ more ∧ (b = false → more = [])
  | [], b, vs, us, e, h, r => by
    obtain rfl := h.nil_inv
    cases r
    exact ⟨[], [], e, .nil, [], rfl, fun _ => rfl⟩
  | c :: cs, b, vs, us, e, h, r => by
    obtain ⟨v, ws', rfl, h1, h2⟩ := h.cons_inv
    cases r with
    | @cons _ u _ us r1 r2 =>
      have e0 := e
      unfold isAny at e
      split at e
      · rename_i e1
        cases e
        refine ⟨[c], [u], ?_, .cons (one_cv e1 h1 r1) .nil, us, rfl, fun z => by cases z⟩
        unfold isAny; rw [e1]
      · rename_i e1
        obtain ⟨cs', us', k1, k2, more, k3, k4⟩ := any_cv e h2 r2
        refine ⟨c :: cs', u :: us', ?_, .cons (one_cv e1 h1 r1) k2, more, by rw [k3]; rfl, k4⟩
        unfold isAny; rw [e1]; exact k1
      · cases e
theorem kitAny_app {K : PySem.W.Frag} {t : Value} : ∀ {us more : List Value} {b : Bool}, PySem.W.kitAny K t us = some b → (b = false → more = []) → PySem.W.kitAny K t (us ++ more) = some b
  | [], more, b, e, h => by
    cases e
    rw [h rfl]; rfl
  | u :: us, more, b, e, h => by
    rw [List.cons_append]
    unfold PySem.W.kitAny at e ⊢
    split at e
    · exact e
    · exact kitAny_app e h
    · cases e
theorem kit_av {pins : List (Addr × Obj)} {σ0 : L2.St} {H : Hp} {s : Shared} {ι : List Addr} {M : AH} {a : AV} {x : V} {u : Value} {t : AT} (I : Inv X pins σ0 H s) (G : GloFn (kf X) fns) (F : IsF (kf X) ws) (rep : Rep (kf X) ι M H) (h : VR (kf X) ι H a x) (r : RelV x u) (e : tyA fns ws M a = some t) :
    ∃ (P : Heap → Prop) (tv : Value), PySem.W.KitX X.K u tv P ∧ P s.heap ∧ u ≠ .builtin "__main__.__loader__#opaque" ∧ TV (kf X) t tv ∧ ∀ c, t = .own c → c ∈ ws := by
  cases a with
  | non => cases e; rw [vr_non] at h; subst h; cases (show u = Value.none from r); exact ⟨_, _, PySem.W.kitx_none, True.intro, (fun z => nomatch z), rfl, fun c z => by cases z⟩
  | bl y => cases e; rw [vr_bl] at h; subst h; cases (show u = Value.bool y from r); exact ⟨_, _, PySem.W.kitx_bool, True.intro, (fun z => nomatch z), rfl, fun c z => by cases z⟩
  | int y => cases e; rw [vr_int] at h; subst h; obtain ⟨t, q⟩ := (show ∃ t, u = Value.int y t from r); cases q; exact ⟨_, _, PySem.W.kitx_int, True.intro, (fun z => nomatch z), rfl, fun c z => by cases z⟩
  | str y => cases e; rw [vr_str] at h; subst h; obtain ⟨t, q⟩ := (show ∃ t, u = Value.str y t from r); cases q; exact ⟨_, _, PySem.W.kitx_str, True.intro, (fun z => nomatch z), rfl, fun c z => by cases z⟩
  | tup xs =>
    cases e
    rw [vr_tup] at h
    obtain ⟨p, vs, rfl, hp, _⟩ := h
    cases (show u = Value.ref p from r)
    obtain ⟨its, rv, ht, _⟩ := I.tuple hp
    obtain ⟨o, ho, hc, n, hd⟩ := ht
    exact ⟨_, _, PySem.W.kitx_tuple, ⟨o, ho, hc⟩, (fun z => nomatch z), rfl, fun c z => by cases z⟩
  | glo y =>
    unfold tyA at e
    dsimp only at e
    split at e
    case isFalse => cases e
    rename_i hm
    cases e
    rw [vr_glo] at h
    obtain ⟨f, m, rfl⟩ := h
    cases (show u = Value.ref f from r)
    obtain ⟨o, l1, l2⟩ := G.ok y f hm m
    exact ⟨_, _, kitx_fn, ⟨o, I.kIn _ _ l1, l2⟩, (fun z => nomatch z), rfl, fun c z => by cases z⟩
  | ty y => cases e
  | ref i =>
    rw [vr_ref] at h
    obtain ⟨p, ep, rfl⟩ := h
    cases (show u = Value.ref p from r)
    unfold tyA at e
    dsimp only at e
    cases em : M[i]? with
    | none => rw [em] at e; cases e
    | some o =>
      rw [em] at e
      have ho := rep.at_ em ep
      cases o with
      | lst xs =>
        cases e
        obtain ⟨vs, h1, _⟩ := ho
        obtain ⟨_, _, n, _, h2⟩ := I.hok p _ h1
        exact ⟨_, _, PySem.W.kitx_list, ⟨_, h2, rfl⟩, (fun z => nomatch z), rfl, fun c z => by cases z⟩
      | frz xs =>
        cases e
        obtain ⟨ob, vs, h1, _⟩ := ho
        obtain ⟨_, _, _, n, _, h2⟩ := I.hok p _ h1
        exact ⟨_, _, PySem.W.kitx_list, ⟨_, h2, rfl⟩, (fun z => nomatch z), rfl, fun c z => by cases z⟩
      | dct kvs =>
        cases e
        rcases ho with ⟨gs, h1, _⟩ | ⟨ks, h1, _⟩
        · obtain ⟨_, _, vs, _, o, es, ep2, h2, h3, _⟩ := I.hok p _ h1
          exact ⟨_, _, PySem.W.kitx_dict, ⟨o, h2, h3.1⟩, (fun z => nomatch z), rfl, fun c z => by cases z⟩
        · obtain ⟨⟨_, _, o, es, ep2, xs, h2, h3, _⟩, _⟩ := I.hok p _ h1
          exact ⟨_, _, PySem.W.kitx_dict, ⟨o, h2, h3.1⟩, (fun z => nomatch z), rfl, fun c z => by cases z⟩
      | ins c fs =>
        dsimp only at e
        split at e
        case isFalse => cases e
        rename_i hm
        cases e
        obtain ⟨C, dx, gs, k0, k1, _⟩ := ho
        obtain ⟨cl, ha, hn, htk, hmr, _⟩ := F.ok c C hm k0
        obtain ⟨mA, O, _⟩ := ins_get I.hok k1
        obtain ⟨od, J, _⟩ := O.look
        exact ⟨_, _, PySem.W.kitx_own (cl.get _) cl.hd ha hn htk hmr, J, (fun z => nomatch z), ⟨C, k0, rfl⟩, fun c z => by cases z; exact hm⟩
theorem cr_isa (G : GloFn (kf X) fns) (F : IsF (kf X) ws) : CallR X (.builtin "isinstance") (rdN (kf X) W (isA fns ws)) := by
  intro pins s σ0 H xs us Q I r ⟨ι, vs, M, σ, as, hr, ha, o⟩
  unfold isA at o
  split at o
  case h_2 => exact o.elim
  rename_i x c
  split at o
  case h_2 => exact o.elim
  rename_i t et
  split at o
  case h_2 => exact o.elim
  rename_i b eb
  obtain ⟨vx, ws1, rfl, h1, h2⟩ := ha.cons_inv
  obtain ⟨vc, ws2, rfl, h3, h4⟩ := h2.cons_inv
  obtain rfl := h4.nil_inv
  obtain ⟨u1, u2, rfl, r1, r2⟩ := vals2 r
  obtain ⟨P, tv, Z, p, hx, hT, hw⟩ := kit_av I G F hr.rep h1 r1 et
  have fin : ∀ tk, EP X pins σ0 Q (.bool b) { s with toks := tk } := fun tk => ⟨.bl b, H, I.tok tk, rfl, Out.fin hr o (by rw [vr_bl])⟩
  unfold isCls at eb
  split at eb
  · rename_i cs
    rw [vr_tup] at h3
    obtain ⟨tp, vs', rfl, hp, hcs⟩ := h3
    cases (show u2 = Value.ref tp from r2)
    obtain ⟨its, rv, ht, _⟩ := I.tuple hp
    obtain ⟨⟨oc, od, dt, sl⟩, ho, hc, n, hd⟩ := ht
    simp only at hc hd
    subst hc hd
    obtain ⟨cs', us', k1, k2, more, k3, k4⟩ := any_cv eb hcs rv
    have kk := kitAny_app (any_ok F hT hw k2 k1) k4
    rw [← k3] at kk
    exact PySem.W.kia_tup Z I.kIn p ho kk hx fin
  · exact PySem.W.kia_one Z I.kIn p (one_ok F hT hw (one_cv eb h3 r2) eb) hx fin
end
end AM
end

section
set_option Elab.async false
set_option linter.all false
set_option autoImplicit false
set_option maxRecDepth 100000
set_option maxHeartbeats 4000000
/-! AM 17: list comprehensions. -/
namespace AM
open PySem PySem.Spec L2

/-! ### slots of its own -/
def wipeL (vs : Loc) : List Nat → Loc
  | [] => vs
  | j :: js => (wipeL vs js).set j none
theorem wipe_out {σ : L2.St} {i : Nat} : ∀ {js : List Nat}, i ∉ js → (wipe σ js)[i]? = σ[i]?
  | [], _ => rfl
  | j :: js, h => by
    unfold wipe
    rw [List.mem_cons, not_or] at h
    rw [List.getElem?_set_ne (Ne.symm h.1)]
    exact wipe_out h.2
theorem wipeL_len {vs : Loc} : ∀ {js : List Nat}, (wipeL vs js).length = vs.length
  | [] => rfl
  | j :: js => by unfold wipeL; rw [List.length_set, wipeL_len]
theorem wipeL_some {vs : Loc} {i : Nat} {x : SV} : ∀ {js : List Nat}, (wipeL vs js)[i]? = some (some x) → vs[i]? = some (some x) ∧ i ∉ js
  | [], h => ⟨h, by simp⟩
  | j :: js, h => by
    unfold wipeL at h
    by_cases hi : j = i
    · subst hi
      rw [List.getElem?_set] at h
      simp at h
    · rw [List.getElem?_set_ne hi] at h
      obtain ⟨h1, h2⟩ := wipeL_some h
      exact ⟨h1, by simp only [List.mem_cons, not_or]; exact ⟨fun e => hi e.symm, h2⟩⟩
theorem SLs.wipe {κ : Cfg} {ι : List Addr} {H : Hp} {vs : Loc} {σ : L2.St} (h : SLs κ ι H vs σ) (js : List Nat) : SLs κ ι H (wipeL vs js) (L2.wipe σ js) :=
  ⟨by rw [wipeL_len, wipe_length]; exact h.len, fun i sv e => by
    obtain ⟨e1, e2⟩ := wipeL_some e
    obtain ⟨v, e3, r⟩ := h.at_ i sv e1
    exact ⟨v, (wipe_out e2).trans e3, r⟩⟩
theorem wipe_get_in {σ : L2.St} {i : Nat} : ∀ {js : List Nat}, i ∈ js → i < σ.length → (wipe σ js)[i]? = some none
  | j :: js, h, hl => by
    unfold wipe
    by_cases hi : j = i
    · subst hi
      rw [List.getElem?_set_self (by rw [wipe_length]; exact hl)]
    · rw [List.getElem?_set_ne hi]
      rcases List.mem_cons.mp h with e | h
      · exact absurd e.symm hi
      · exact wipe_get_in h hl
theorem wipe_ext {σ σ' : L2.St} {js : List Nat} (hl : σ.length = σ'.length) (h : ∀ i, i ∉ js → σ[i]? = σ'[i]?) : wipe σ js = wipe σ' js := by
  apply List.ext_getElem?
  intro i
  by_cases hi : i ∈ js
  · by_cases hb : i < σ.length
    · rw [wipe_get_in hi hb, wipe_get_in hi (by omega)]
    · rw [List.getElem?_eq_none (by rw [wipe_length]; omega), List.getElem?_eq_none (by rw [wipe_length]; omega)]
  · rw [wipe_out hi, wipe_out hi]; exact h i hi
theorem wipe_wipe {σ : L2.St} {js : List Nat} : wipe (wipe σ js) js = wipe σ js := wipe_ext (wipe_length _ _) fun i hi => wipe_out hi
/-! ### targets of a comprehension -/
section
variable (κ : Cfg)
/-- the target's end: only own slots have changed -/
def OutO (own : List Nat) (ι : List Addr) (σ : L2.St) (H : Hp) (Q : L2.St → Hp → Prop) : RS → Prop
  | .nx vs M => ∀ ι' H' σ', ι <+: ι' → Keep H H' → Rel κ ι' vs M σ' H' → wipe σ' own = wipe σ own → Q σ' H'
  | _ => False
def rdO (own : List Nat) (g : CG) : TG := fun v σ H Q => ∃ ι vs M a, Rel κ ι vs M σ H ∧ VR κ ι H a v ∧ OutO κ own ι σ H Q (g a vs M)
def rdOs (own : List Nat) (g : CGs) : TGs := fun xs σ H Q => ∃ ι vs M as, Rel κ ι vs M σ H ∧ VRs κ ι H as xs ∧ OutO κ own ι σ H Q (g as vs M)
end
section
variable [Tb] {X : Cx} {W : WX} {own : List Nat} {e : Expr} {x : Str} {pos : Pos} {g : CG} {gs : CGs}
abbrev EvTg [Tb] (X : Cx) (own : List Nat) (tg : Expr) (g : CG) : Prop := PG X tg (rdO (kf X) own g)
abbrev EvTgs [Tb] (X : Cx) (own : List Nat) (tg : List Expr) (g : CGs) : Prop := PGs X tg (rdOs (kf X) own g)
theorem eo_name (i : Nat) (hN : X.N.Nodup) (ho : i ∈ own) (hi : X.N[i]? = some x := by rfl) (hx : L2.Loc X.env.scope x := by first | exact .inl rfl | exact .inr rfl) (hf : X.fn x = true ∨ X.env.scope.names.lookup x = some .local := by first | exact .inl rfl | exact .inr rfl) : EvTg X own (.Name x pos) (nameG i) :=
  ⟨fun pins s σ H v u Q I r ⟨ι, vs, M, a, hr, ha, o⟩ => (pg_name hN hi hx hf).run pins s σ H v u Q I r (o ι H _ (List.prefix_refl _) (Keep.refl _) (hr.slot ha) (wipe_ext (by simp) fun j hj => List.getElem?_set_ne (fun z : i = j => hj (by rw [← z]; exact ho))))⟩
theorem eos_nil : EvTgs X own [] nilG := ⟨fun pins s σ H xs us Q I r ⟨ι, vs, M, as, hr, ha, o⟩ => by
  unfold nilG at o
  split at o
  · obtain rfl := ha.nil_inv
    exact pgs_nil.run pins s σ H _ us Q I r ⟨rfl, o ι H σ (List.prefix_refl _) (Keep.refl _) hr rfl⟩
  · exact o.elim⟩
theorem eos_cons {es : List Expr} (h1 : EvTg X own e g) (h2 : EvTgs X own es gs) (hs : (assignEach (e :: es) X.env).map (·.2) = assign e X.env :: (assignEach es X.env).map (·.2) := by rfl) : EvTgs X own (e :: es) (consG g gs) :=
  ⟨fun pins s σ H xs us Q I r ⟨ι, vs, M, as, hr, ha, o⟩ => by
    unfold consG at o
    split at o
    · rename_i a as
      obtain ⟨v, ws, rfl, g1, g2⟩ := ha.cons_inv
      refine (pgs_cons h1 h2 hs).run pins s σ H _ us Q I r ⟨v, ws, rfl, ι, vs, M, a, hr, g1, ?_⟩
      cases q : g a vs M with
      | nx vs1 M1 =>
        rw [q] at o
        refine fun ι' H' σ' h1 h2 h3 h4 => ⟨ι', vs1, M1, as, h3, g2.mono h1 h2, ?_⟩
        have o : OutO (kf X) own ι σ H Q (gs as vs1 M1) := o
        cases q2 : gs as vs1 M1 with
        | nx vs2 M2 => rw [q2] at o; exact fun ι2 H2 σ2 k1 k2 k3 k4 => o ι2 H2 σ2 (h1.trans k1) (h2.trans k2) k3 (k4.trans h4)
        | bk a b => rw [q2] at o; exact o.elim
        | ct a b => rw [q2] at o; exact o.elim
        | rt a b => rw [q2] at o; exact o.elim
        | exc a b c d => rw [q2] at o; exact o.elim
        | bad => rw [q2] at o; exact o.elim
      | bk a b => rw [q] at o; exact o.elim
      | ct a b => rw [q] at o; exact o.elim
      | rt a b => rw [q] at o; exact o.elim
      | exc a b c d => rw [q] at o; exact o.elim
      | bad => rw [q] at o; exact o.elim
    · exact o.elim⟩
theorem eo_tup {es : List Expr} {k n : Nat} (hc : X.calm = true) (h : EvTgs X own es gs) (hn : (assignEach es X.env).length = n := by rfl) (hst : (assignEach es X.env).findIdx? (·.1) = none := by rfl) : EvTg X own (.Tuple es k pos) (tupG n gs) :=
  ⟨fun pins s σ H v u Q I r ⟨ι, vs, M, a, hr, ha, o⟩ => by
    unfold tupG at o
    split at o
    · rename_i xs
      split at o
      · rename_i hl
        rw [vr_tup] at ha
        obtain ⟨p, ws, rfl, hp, hw⟩ := ha
        exact (pg_tup hc h hn hst).run pins s σ H _ u Q I r ⟨p, ws, rfl, hp, by rw [← hw.length]; exact hl, ι, vs, M, xs, hr, hw, o⟩
      · exact o.elim
    · exact o.elim⟩
end
/-! ### the loop -/
def yesT : CT := fun _ M => .ok true M
def runG (g : CG) (a : AV) (vs : Loc) (M : AH) (k : Loc → AH → R AV) : R AV := match g a vs M with
  | .nx vs1 M1 => k vs1 M1
  | _ => .bad
def thenR {α β : Type} (r : R α) (k : α → AH → R β) : R β := match r with
  | .ok a M => k a M
  | _ => .bad
/-- y goes to the list at d -/
def pushA (d : Nat) (y : AV) (M : AH) (k : AH → R AV) : R AV := match M[d]? with
  | some (.lst acc) => if acc.length < sizeLine then k (M.set d (.lst (acc ++ [y]))) else .bad
  | _ => .bad
def lcL (it : IT) (d : Nat) (own : List Nat) (g : CG) (t : CT) (ce : CE) (vs : Loc) : List AV → AH → R AV
  | [], M => if it.ok M = true then .ok (.ref d) M else .bad
  | x :: xs, M => if it.ok M = true then runG g x (wipeL vs own) M fun vs1 M1 => thenR (t vs1 M1) fun b M2 => if b = true then thenR (ce vs1 M2) fun y M3 => pushA d y M3 (lcL it d own g t ce vs xs) else lcL it d own g t ce vs xs M2 else .bad
def lcC (own : List Nat) (ci : CI) (g : CG) (t : CT) (ce : CE) : CE := fun vs M => (ci vs M).bind fun it M1 => lcL it M1.length own g t ce vs it.items (M1 ++ [.lst []])
section
variable [Tb] {X : Cx} {W : WX} {own : List Nat} {g : CG} {t : CT} {ce : CE} {ci : CI}
theorem Out.base {α β : Type} {rel : List Addr → Hp → α → β → Prop} {κ : Cfg} {ι ι' : List Addr} {vs : Loc} {σ : L2.St} {H H' : Hp} {Q : β → Hp → Prop} {r : R α} (o : Out κ W rel ι vs σ H Q r) (p : ι <+: ι') (k : Keep H H') : Out κ W rel ι' vs σ H' Q r := by
  cases r with
  | ok a M' => exact fun ι2 H2 b k1 k2 k3 k4 => o ι2 H2 b (p.trans k1) (k.trans k2) k3 k4
  | exc c fs M' => exact fun ι2 H2 C d k1 k2 k3 k4 => o ι2 H2 C d (p.trans k1) (k.trans k2) k3 k4
  | bad => exact o
theorem Out.thenR {α α' β β' : Type} {rel : List Addr → Hp → α → β → Prop} {rel' : List Addr → Hp → α' → β' → Prop} {κ : Cfg} {ι : List Addr} {vs vs' : Loc} {σ σ' : L2.St} {H : Hp} {Q : β' → Hp → Prop} {r : R α} {k : α → AH → R α'} (hs : SLs κ ι H vs σ) (o : Out κ W rel' ι vs σ H Q (AM.thenR r k)) :
    Out κ WF rel ι vs' σ' H (fun b H1 => ∃ ι1 a M1, ι <+: ι1 ∧ Keep H H1 ∧ Rel κ ι1 vs' M1 σ' H1 ∧ rel ι1 H1 a b ∧ Out κ W rel' ι1 vs σ H1 Q (k a M1)) r := by
  cases r with
  | ok a M' =>
    refine fun ι' H' b h1 h2 h3 h4 => ⟨ι', a, M', h1, h2, h3, h4, ?_⟩
    have o : Out κ W rel' ι vs σ H Q (k a M') := o
    cases hk : k a M' with
    | ok a2 M2 => rw [hk] at o; exact fun ι2 H2 b2 g1 g2 g3 g4 => o ι2 H2 b2 (h1.trans g1) (h2.trans g2) g3 g4
    | exc c fs M2 => rw [hk] at o; exact fun ι2 H2 C d g1 g2 g3 g4 => o ι2 H2 C d (h1.trans g1) (h2.trans g2) g3 g4
    | bad => rw [hk] at o; exact o
  | exc c fs M' => exact o.elim
  | bad => exact o.elim
theorem lc_read {wi : TI} {ι : List Addr} {vs : Loc} {M : AH} {σ : L2.St} {H : Hp} {Q : VK} (hw : ∀ σ H Q, rdI (kf X) W ci σ H Q → wi σ H Q) (hr : Rel (kf X) ι vs M σ H) (o : Out (kf X) W (VR (kf X)) ι vs σ H Q (lcC own ci g t ce vs M)) (hm : ∀ σ H (Q Q' : It → Hp → Prop), rdI (kf X) W ci σ H Q → (∀ J H', Q J H' → Q' J H') → rdI (kf X) W ci σ H Q') :
    tLc (rdI (kf X) W ci) (rdO (kf X) own g) (rdT (kf X) WF t) (rdE (kf X) WF ce) own σ H Q := by
  have h0 : rdI (kf X) W ci σ H fun J H1 => ∃ ι1 it M1, Rel (kf X) ι1 vs M1 σ H1 ∧ ItR (kf X) J ι1 H1 it ∧ Out (kf X) W (VR (kf X)) ι1 vs σ H1 Q (lcL it M1.length own g t ce vs it.items (M1 ++ [.lst []])) :=
    Out.run hr o fun ι1 it M1 J H1 h1 h2 h3 h4 h5 => ⟨ι1, it, M1, h3, h4, h5⟩
  refine hm _ _ _ _ h0 fun J H1 ⟨ι1, it, M1, h3, h4, h5⟩ D hD => ?_
  have kD : Keep H1 (upd H1 D (.lst [])) := Keep.new hD
  have r0 : Rel (kf X) (ι1 ++ [D]) vs (M1 ++ [.lst []]) σ (upd H1 D (.lst [])) := h3.snoc hD ⟨[], upd_same, .nil⟩
  have dD : (ι1 ++ [D])[M1.length]? = some D := by rw [← h3.rep.len]; simp
  refine ⟨fun i m H' => m = it.items.length - i ∧ i ≤ it.items.length ∧ ∃ ι' M', (ι1 ++ [D]) <+: ι' ∧ Keep (upd H1 D (.lst [])) H' ∧ Rep (kf X) ι' M' H' ∧ Out (kf X) W (VR (kf X)) ι' vs σ H' Q (lcL it M1.length own g t ce vs (it.items.drop i) M'), ⟨_, rfl, Nat.zero_le _, _, _, List.prefix_refl _, Keep.refl _, r0.rep, ?_⟩, ?_⟩
  · have o' : Out (kf X) W (VR (kf X)) (ι1 ++ [D]) vs σ (upd H1 D (.lst [])) Q (lcL it M1.length own g t ce vs it.items (M1 ++ [.lst []])) := by
      exact h5.base (List.prefix_append _ _) kD
    simpa using o'
  · rintro i m H' ⟨rfl, hi, ι', M', k1, k2, k3, k4⟩
    have dI : ι'[M1.length]? = some D := pre_get k1 dD
    have sl : SLs (kf X) ι' H' vs σ := h3.sl.mono ((List.prefix_append _ _).trans k1) (kD.trans k2)
    by_cases hlt : i < it.items.length
    · rw [List.drop_eq_getElem_cons hlt, lcL] at k4
      split at k4
      case isFalse => exact k4.elim
      rename_i hok
      obtain ⟨f1, f2⟩ := h4 i ι' M' H' ((List.prefix_append _ _).trans k1) (kD.trans k2) k3 hok
      obtain ⟨f3, f4⟩ := f1 _ (List.getElem?_eq_getElem hlt)
      refine .inr ⟨f3, fun H2 => ∃ ι2 M2, (ι1 ++ [D]) <+: ι2 ∧ Keep (upd H1 D (.lst [])) H2 ∧ Rep (kf X) ι2 M2 H2 ∧ Out (kf X) W (VR (kf X)) ι2 vs σ H2 Q (lcL it M1.length own g t ce vs (it.items.drop (i + 1)) M2), fun H2 ⟨ι2, M2, q1, q2, q3, q4⟩ => ⟨_, (by omega : it.items.length - (i + 1) < it.items.length - i), rfl, hlt, ι2, M2, q1, q2, q3, q4⟩, fun v H2 hy => ?_⟩
      obtain ⟨p1, p2, p3⟩ := f4 v H2 hy
      have rep2 := k3.keep p1 p2
      have sl2 := sl.mono (List.prefix_refl _) p1
      refine ⟨ι', wipeL vs own, M', _, ⟨sl2.wipe own, rep2⟩, p3, ?_⟩
      unfold runG at k4
      cases eg : g it.items[i] (wipeL vs own) M' with
      | nx vs1 M1' =>
        rw [eg] at k4
        dsimp only at k4
        refine fun ι3 H3 σ3 w1 w2 w3 w4 => ⟨w4.trans wipe_wipe, ?_⟩
        have kk : Keep H' H3 := p1.trans w2
        have sl3 : SLs (kf X) ι3 H3 vs σ := sl2.mono w1 w2
        have o3 : Out (kf X) W (VR (kf X)) ι3 vs σ H3 Q (AM.thenR (t vs1 M1') fun b M2 => if b = true then AM.thenR (ce vs1 M2) fun y M3 => pushA M1.length y M3 (lcL it M1.length own g t ce vs (it.items.drop (i + 1))) else lcL it M1.length own g t ce vs (it.items.drop (i + 1)) M2) := by
          exact k4.base w1 kk
        refine ⟨ι3, vs1, M1', w3, (Out.thenR (rel := relT) (vs' := vs1) (σ' := σ3) sl3 o3).imp fun ι' H'' b b' M'' _ _ _ _ ⟨ι4, b2, M2, c1, c2, c3, c4, c5⟩ => ?_⟩
        subst c4
        have P4 : (ι1 ++ [D]) <+: ι4 := (k1.trans w1).trans c1
        have K4 : Keep (upd H1 D (.lst [])) H'' := (k2.trans kk).trans c2
        cases b2 with
        | false =>
          rw [if_neg (by decide)] at c5 ⊢
          exact ⟨ι4, M2, P4, K4, c3.rep, c5⟩
        | true =>
          rw [if_pos rfl] at c5 ⊢
          refine ⟨ι4, vs1, M2, c3, (Out.thenR (rel := VR (kf X)) (vs' := vs1) (σ' := σ3) (sl3.mono c1 c2) c5).imp fun ι' H5 y y' M5 _ _ _ _ ⟨ι5, y2, M3, d1, d2, d3, d4, d5⟩ => ?_⟩
          unfold pushA at d5
          split at d5
          case h_2 => exact d5.elim
          rename_i acc eacc
          split at d5
          case isFalse => exact d5.elim
          rename_i hlen
          have dD5 : ι5[M1.length]? = some D := pre_get (P4.trans d1) dD
          obtain ⟨accV, e1, e2⟩ := d3.rep.at_ eacc dD5
          have hk : Keep H5 (upd H5 D (.lst (accV ++ [y']))) := Keep.mut e1 (fun _ z => by cases z) fun _ _ z => by cases z
          refine ⟨accV, e1, by rw [← e2.length]; exact hlen, ι5, _, P4.trans d1, (K4.trans d2).trans hk, d3.rep.set (o' := .lst (acc ++ [y2])) dD5 e1 hk ⟨_, upd_same, (e2.app (.cons d4 .nil)).mono (List.prefix_refl _) hk⟩ (fun _ z => by cases z), ?_⟩
          exact d5.base (List.prefix_refl _) hk
      | bk a b => rw [eg] at k4; exact k4.elim
      | ct a b => rw [eg] at k4; exact k4.elim
      | rt a b => rw [eg] at k4; exact k4.elim
      | exc a b c d => rw [eg] at k4; exact k4.elim
      | bad => rw [eg] at k4; exact k4.elim
    · have e : i = it.items.length := by omega
      subst e
      rw [List.drop_length, lcL] at k4
      split at k4
      case isFalse => exact k4.elim
      rename_i hok
      obtain ⟨f1, f2⟩ := h4 _ ι' M' H' ((List.prefix_append _ _).trans k1) (kD.trans k2) k3 hok
      exact .inl ⟨f2 rfl, Out.fin ⟨sl, k3⟩ k4 (by rw [vr_ref]; exact ⟨D, dI, rfl⟩)⟩
abbrev BlkC [Tb] (X : Cx) (scope : Scope) (P : Cx → Prop) : Prop := ∀ (s : Shared) (H : Hp) (C : Addr) (cl : List (Str × Addr)) (fp : List Addr), P (X.blk s H scope (compEnvC scope cl C X.env) fp)
theorem ev_lc {k : Nat} {elt tg iter : Expr} {ifs : List Expr} {scope : Scope} {ownp : List (Str × Nat)} {pos : Pos} (B : Be X W k) (hi : EvI X W tg iter ci) (ok : BlkOk X.N X.env.scope scope ownp)
    (hg : BlkC X scope fun Y => EvTg Y (ownp.map (·.2)) tg g) (ht : BlkC X scope fun Y => PTs Y ifs (rdT (kf X) WF t))
    (he : BlkC X scope fun Y => EvE Y WF elt ce) (hs : ∀ x, foldedSetIterable iter X.env x = pure x := by intro _; rfl) :
    EvE X W (.ListComp elt [⟨tg, iter, ifs, 0⟩] scope pos) (lcC (ownp.map (·.2)) ci g t ce) :=
  PE.imp (pe_lc B.calm B.nd hi ok hg ht he hs) fun σ H Q ⟨ι, vs, M, hr, o⟩ => lc_read (fun _ _ _ h => h) hr o fun _ _ _ _ h q => rd.imp h q
theorem es_setLc {k : Nat} {y : Str} {py : Pos} {elt tg iter : Expr} {ifs : List Expr} {scope : Scope} {ownp : List (Str × Nat)} {pos spos : Pos} (i : Nat) (B : Be X W k) (hi : EvI X W tg iter ci) (ok : BlkOk X.N X.env.scope scope ownp)
    (hg : BlkC X scope fun Y => EvTg Y (ownp.map (·.2)) tg g) (ht : BlkC X scope fun Y => PTs Y ifs (rdT (kf X) WF t))
    (he : BlkC X scope fun Y => EvE Y WF elt ce) (hy : X.N[i]? = some y := by rfl) (hyl : X.env.scope.names.lookup y = some .local := by rfl) (hsw : swapsWith (.ListComp elt [⟨tg, iter, ifs, 0⟩] scope pos) (some (.Name y py)) spos.line X.env = pure true := by rfl) (hs : ∀ x, foldedSetIterable iter X.env x = pure x := by intro _; rfl) :
    EvS X W (.Assign [.Name y py] (.ListComp elt [⟨tg, iter, ifs, 0⟩] scope pos) spos) (asgC (lcC (ownp.map (·.2)) ci g t ce) (nameG i)) :=
  PS.imp (ps_setLc B.calm B.nd hy hyl hsw hi ok hg ht he hs) fun D σ H ⟨ι, vs, M, hr, o⟩ => by
    have h1 : rdE (kf X) W (lcC (ownp.map (·.2)) ci g t ce) σ H fun v H1 => gName i v σ H1 D.nx :=
      OutS.run (k := fun a M1 => onlyG (nameG i a vs M1)) hr o fun ι1 a M1 b H1 h1 h2 h3 h4 h5 => OutS.fin (h3.slot h4) h5
    obtain ⟨ι1, vs1, M1, hr1, o1⟩ := h1
    exact lc_read (fun _ _ _ h => h) hr1 o1 fun _ _ _ _ h q => rd.imp h q
theorem pts_nilA {Y : Cx} : PTs Y [] (rdT (kf X) WF yesT) := ⟨fun pins s σ H Q I ⟨ι, vs, M, hr, o⟩ => pts_nil.run pins s σ H Q I (Out.fin hr o rfl)⟩
theorem pts_oneA {Y : Cx} {c : Expr} (h : EvT Y WF c t) : PTs Y [c] (rdT (kf Y) WF t) := pts_one h
end
end AM
end

section
set_option Elab.async false
set_option linter.all false
set_option autoImplicit false
set_option maxRecDepth 100000
set_option maxHeartbeats 4000000
/-! AM 18: dict comprehensions, keys of either kind. -/
namespace AM
open PySem PySem.Spec L2

/-- d[k] = v, in a comprehension's block -/
def PDs (X : Cx) (D : Addr) (t : V → V → Hp → (Hp → Prop) → Prop) : Prop := ∀ (pins : List (Addr × Obj)) (s : Shared) (σ : L2.St) (H : Hp) (y z : V) (u r : Value) (Q : Hp → Prop) (E : Value → Shared → Prop), Inv X pins σ H s → RelV y u → RelV z r → t y z H Q →
  wpAny (model X.prog X.w) X.A (dictSet D u r) (fun _ s' => ∃ H', Inv X pins σ H' s' ∧ Q H') E s
section
variable {X : Cx}
def tDcA (wi : TI) (g : TG) (tt : TT) (tk tv : TE) (td : Addr → V → V → Hp → (Hp → Prop) → Prop) (vs : List Nat) : TE := fun σ H Q => wi σ H fun J H1 => ∀ D, H1 D = none → ∃ W : Nat → Nat → Hp → Prop, (∃ m, W 0 m (upd H1 D (.dK []))) ∧ ∀ i m H, W i m H →
  (J.stop i H ∧ Q (.ref D) H) ∨ (J.go i H ∧ ∃ Nx : Hp → Prop, (∀ H', Nx H' → ∃ m', m' < m ∧ W (i + 1) m' H') ∧ ∀ x H', J.yld i H x H' → g x (wipe σ vs) H' fun σ2 H2 => wipe σ2 vs = wipe σ vs ∧ tt σ2 H2 fun b H3 =>
    if b = true then tk σ2 H3 fun y H4 => tv σ2 H4 fun z H5 => td D y z H5 Nx else Nx H3)
theorem dcA_core {pins : List (Addr × Obj)} {s : Shared} {σ : L2.St} {H : Hp} {Q : VK} {kx vx tg iter : Expr} {ifs : List Expr} {scope : Scope} {own : List (Str × Nat)} {pos pos' : Pos} {wi : TI} {g : TG} {tt : TT} {tk tv : TE} {td : Addr → V → V → Hp → (Hp → Prop) → Prop} {Qf : Value → Shared → Prop} {use : Option (Value → Sem Unit)}
    (hc : X.calm = true) (hN : X.N.Nodup) (I : Inv X pins σ H s) (hi : PI X tg iter wi) (ok : BlkOk X.N X.env.scope scope own)
    (hg : ∀ (s : Shared) (H : Hp) (C : Addr) (cl : List (Str × Addr)) (fp : List Addr), PG (X.blk s H scope (compEnvC scope cl C X.env) fp) tg g) (ht : ∀ (s : Shared) (H : Hp) (C : Addr) (cl : List (Str × Addr)) (fp : List Addr), PTs (X.blk s H scope (compEnvC scope cl C X.env) fp) ifs tt)
    (hk : ∀ (s : Shared) (H : Hp) (C : Addr) (cl : List (Str × Addr)) (fp : List Addr), PE (X.blk s H scope (compEnvC scope cl C X.env) fp) kx tk)
    (he : ∀ (s : Shared) (H : Hp) (C : Addr) (cl : List (Str × Addr)) (fp : List Addr), PE (X.blk s H scope (compEnvC scope cl C X.env) fp) vx tv)
    (hds : ∀ (s : Shared) (H : Hp) (C : Addr) (cl : List (Str × Addr)) (fp : List Addr) (D : Addr), PDs (X.blk s H scope (compEnvC scope cl C X.env) fp) D (td D)) (hs : ∀ x, foldedSetIterable iter X.env x = pure x)
    (h : tDcA wi g tt tk tv td (own.map (·.2)) σ H Q)
    (hRR : ∀ D C s' m H', Inv X pins σ H' s' → Q (.ref D) H' → s'.heap.Ns C m → FpOk X pins H' C → compPost (model X.prog X.w) X.A X.xe use Qf (.ref D) C (.ok .next) s') :
    wpAny (model X.prog X.w) X.A (comprehension (.DictComp kx vx [⟨tg, iter, ifs, 0⟩] scope pos) scope X.env pos' newDict false (eval iter X.env) use) Qf X.xe s := by
  have hfree : ∀ y ∈ scope.names, y.2 = .free → ∃ c, X.env.cells.lookup y.1 = some c := fun y hy e => by
    rcases ok.free y hy e with k | k
    · exact I.ok.has _ (.inl k)
    · exact I.ok.has _ (.inr k)
  refine wpAny_comprehension_free (use := use) rfl hs (closure_ok hfree) ok.kind (fun y hy e => by rw [ok.uniq y hy, e])
    (thn (hi.run pins s σ H _ I h) fun xv s1 hx => thn hx fun itv s2 h2 => ?_)
  obtain ⟨it, fp, tn, J, H2, e, I2, T, st2, f2, q⟩ := h2
  subst e
  refine wpAny_newObj_type (newEnv_comp ?_)
  generalize hD : s2.heap.objs.size = D
  have hDn : H2 D = none := I2.hok.fresh (Nat.le_of_eq hD)
  obtain ⟨W, ⟨m0, w0⟩, turn⟩ := q D hDn
  generalize hs3 : ({ s2 with heap := s2.heap.push { cls := .type "dict", data := .dict #[] } } : Shared) = s3
  have I3 : Inv X pins σ (upd H2 D (.dK [])) s3 := by
    rw [← hs3]
    refine I2.laid (t' := s2.toks) (fun b o e => Heap.get?_push_of_some _ e) (Nat.le_of_eq hD) ?_
    rw [← hD]
    exact dk_empty s2.heap I2.big
  have h3 : s3.heap = s2.heap.push { cls := .type "dict", data := .dict #[] } := by rw [← hs3]
  have f3 : ∀ b ∈ fp, FpOk X pins (upd H2 D (.dK [])) b ∧ b < s3.heap.objs.size := fun b hb => by
    have hlt : b < s2.heap.objs.size := by
      obtain ⟨o, e, _⟩ := T.obj _ _ st2 b hb
      exact Heap.lt_size e
    refine ⟨⟨?_, (f2 b hb).2⟩, by rw [h3, Heap.size_push]; exact Nat.lt_succ_of_lt hlt⟩
    rw [upd_ne (by rw [← hD]; exact Nat.ne_of_lt hlt)]
    exact (f2 b hb).1
  have st3 : tn 0 s3.heap := T.keep _ _ _ st2 fun b _ o e => by rw [h3]; exact Heap.get?_push_of_some _ e
  have I4 := block_start I3 ok hN f3
  have pg := hg s3 (upd H2 D (.dK [])) s3.heap.objs.size (cellsFrom (s3.heap.objs.size + 1) scope.names (cloFrom X.env.cells scope.names [])) fp
  have pt := ht s3 (upd H2 D (.dK [])) s3.heap.objs.size (cellsFrom (s3.heap.objs.size + 1) scope.names (cloFrom X.env.cells scope.names [])) fp
  have pk := hk s3 (upd H2 D (.dK [])) s3.heap.objs.size (cellsFrom (s3.heap.objs.size + 1) scope.names (cloFrom X.env.cells scope.names [])) fp
  have pe := he s3 (upd H2 D (.dK [])) s3.heap.objs.size (cellsFrom (s3.heap.objs.size + 1) scope.names (cloFrom X.env.cells scope.names [])) fp
  have pd := hds s3 (upd H2 D (.dK [])) s3.heap.objs.size (cellsFrom (s3.heap.objs.size + 1) scope.names (cloFrom X.env.cells scope.names [])) fp D
  show codeAny _ _ (.compStart (.DictComp kx vx [⟨tg, iter, ifs, 0⟩] scope pos) 0 (.ref it) (.ref D) (compEnvC scope (cellsFrom (s3.heap.objs.size + 1) scope.names (cloFrom X.env.cells scope.names [])) s3.heap.objs.size X.env)) (compPost (model X.prog X.w) X.A X.xe use Qf (.ref D) s3.heap.objs.size) { s3 with heap := pushCells (s3.heap.push { cls := .type "dict", data := .dict #[] }) scope.names }
  have nfp : ∀ b ∈ fp, (upd H2 D (.dK [])) b = none := fun b hb => (f3 b hb).1.1
  generalize hce : compEnvC scope (cellsFrom (s3.heap.objs.size + 1) scope.names (cloFrom X.env.cells scope.names [])) s3.heap.objs.size X.env = ce at I4 pg pt pk pe pd ⊢
  have cL : ce.locals = s3.heap.objs.size := by subst hce; rfl
  generalize hH3 : upd H2 D (.dK []) = H3 at I3 I4 pg pt pk pe pd w0 nfp f3
  generalize hs4 : ({ s3 with heap := pushCells (s3.heap.push { cls := .type "dict", data := .dict #[] }) scope.names } : Shared) = s4 at I4 ⊢
  have st4 : tn 0 s4.heap := T.keep _ _ _ st3 fun b _ o e => by rw [← hs4]; exact pushCells_keeps _ _ _ _ (Heap.get?_push_of_some _ e)
  have stat : ∀ {σ' : L2.St} {H' : Hp} {s' : Shared}, Inv (X.blk s3 H3 scope ce fp) [] σ' H' s' → (∀ b ∈ fp, H' b = none) → ∀ b ∈ fp, FpOk (X.blk s3 H3 scope ce fp) [] H' b := fun {σ' H' s'} I' hn b hb =>
    ⟨hn b hb, (I'.ok.exf b hb).1, I'.ok.exfs b hb, .inl hb, fun x c e => (I'.ok.exf b hb).2 x c e, fun p hp => absurd (show p ∈ ([] : List (Addr × Obj)) ++ [] from hp) (by simp)⟩
  refine codeAny_compStart_dict ?loop (T.self X.A 0 _ _ _ st4 ?loop)
  refine compLoop_anyD (fun n s' => ∃ i H', Inv (X.blk s3 H3 scope ce fp) [] (wipe σ (own.map (·.2))) H' s' ∧ tn i s'.heap ∧ (∀ b ∈ fp, H' b = none) ∧ W i n H') ?_ m0 ⟨0, H3, I4, st4, nfp, w0⟩
  rintro n s5 ⟨i, H5, I5, st5, n5, w5⟩
  rcases turn i n H5 w5 with ⟨stop, qq⟩ | ⟨go, Nx, hNx, step⟩
  · refine thnF (T.done (X.blk s3 H3 scope ce fp) rfl rfl rfl hc i [] s5 _ H5 (fun _ _ => False) I5 (stat I5 n5) st5 stop) fun r s6 ⟨hr, I6⟩ => ?_
    subst hr
    have I7 : Inv X pins σ H5 s6 := I3.call' (ch := fp) I6.os I6.base I6.hok I6.bare fun b hb => ⟨(f3 b hb).1.2.2.2.1, (f3 b hb).1.2.1, (f3 b hb).1.2.2.2.2.1, (f3 b hb).1.2.2.2.2.2⟩
    have nC : H5 s3.heap.objs.size = none := by
      have z : H5 ce.locals = none := I6.free
      rw [cL] at z
      exact z
    obtain ⟨m, hn, _⟩ := I6.loc
    have hn : s6.heap.Ns ce.locals m := hn
    rw [cL] at hn
    exact hRR D s3.heap.objs.size s6 m H5 I7 qq hn (I3.fpOk (Nat.le_refl _) nC)
  · refine thnF (T.item (X.blk s3 H3 scope ce fp) rfl rfl rfl hc i [] s5 _ H5 (fun _ _ => False) I5 (stat I5 n5) st5 go) fun r s6 ⟨u, hr, h6⟩ => ?_
    subst hr
    refine thnF h6 fun _ s7 ⟨x, H7, I7, r7, y7, st7, n7⟩ => ?_
    have I7' := I7.pinned (stat I7 n7) (T.obj _ _ st7)
    refine thnF (pg.run _ s7 _ H7 x u _ I7' r7 (step x H7 y7)) fun _ s8 ⟨σ8, H8, I8, hw8, q8⟩ => ?_
    refine thnF (pt.run _ s8 σ8 H8 _ I8 q8) fun b s9 ⟨H9, I9, q9⟩ => ?_
    have fin : ∀ {s' : Shared} {H' : Hp}, Inv (X.blk s3 H3 scope ce fp) ([] ++ pinsAt fp s7.heap) σ8 H' s' → Nx H' → ∃ m, m < n ∧ ∃ i H', Inv (X.blk s3 H3 scope ce fp) [] (wipe σ (own.map (·.2))) H' s' ∧ tn i s'.heap ∧ (∀ b ∈ fp, H' b = none) ∧ W i m H' := fun {s' H'} I' nx => by
      obtain ⟨m', hm, w'⟩ := hNx H' nx
      have pin' : ∀ b ∈ fp, ∀ o, s7.heap.get? b = some o → s'.heap.get? b = some o ∧ H' b = none := fun b hb o e =>
        let z := I'.pin (b, o) (List.mem_append_right _ (List.mem_append_right _ (mem_pinsAt hb e)))
        ⟨z.1, z.2.1⟩
      have hl : (wipe σ (own.map (·.2))).length = σ8.length := by rw [← hw8, wipe_length]
      refine ⟨m', hm, i + 1, H', (I'.unpinned (pins := [])).weak hl (fun j v e => ?_), T.keep _ _ _ st7 fun b hb o e => (pin' b hb o e).1, fun b hb => ?_, w'⟩
      · rw [← hw8] at e
        exact (wipe_some e).1
      · obtain ⟨o, e, _⟩ := T.obj _ _ st7 b hb
        exact (pin' b hb o e).2
    cases b with
    | false =>
      simp only [Bool.false_eq_true, if_false] at q9 ⊢
      exact fin I9 q9
    | true =>
      simp only [if_true] at q9 ⊢
      refine thnF (pk.run _ s9 σ8 H9 _ I9 q9) fun z s10 ⟨yk, H10, I10, r10, q10⟩ => ?_
      refine thnF (pe.run _ s10 σ8 H10 _ I10 q10) fun z2 s11 ⟨yv, H11, I11, r11, q11⟩ => ?_
      exact thn (pd _ s11 σ8 H11 yk yv _ _ Nx _ I11 r10 r11 q11) fun _ s12 ⟨H12, I12, nx⟩ => fin I12 nx
theorem pe_dcA {kx vx tg iter : Expr} {ifs : List Expr} {scope : Scope} {own : List (Str × Nat)} {pos : Pos} {wi : TI} {g : TG} {tt : TT} {tk tv : TE} {td : Addr → V → V → Hp → (Hp → Prop) → Prop} (hc : X.calm = true) (hN : X.N.Nodup) (hi : PI X tg iter wi) (ok : BlkOk X.N X.env.scope scope own)
    (hg : ∀ (s : Shared) (H : Hp) (C : Addr) (cl : List (Str × Addr)) (fp : List Addr), PG (X.blk s H scope (compEnvC scope cl C X.env) fp) tg g) (ht : ∀ (s : Shared) (H : Hp) (C : Addr) (cl : List (Str × Addr)) (fp : List Addr), PTs (X.blk s H scope (compEnvC scope cl C X.env) fp) ifs tt)
    (hk : ∀ (s : Shared) (H : Hp) (C : Addr) (cl : List (Str × Addr)) (fp : List Addr), PE (X.blk s H scope (compEnvC scope cl C X.env) fp) kx tk)
    (he : ∀ (s : Shared) (H : Hp) (C : Addr) (cl : List (Str × Addr)) (fp : List Addr), PE (X.blk s H scope (compEnvC scope cl C X.env) fp) vx tv)
    (hds : ∀ (s : Shared) (H : Hp) (C : Addr) (cl : List (Str × Addr)) (fp : List Addr) (D : Addr), PDs (X.blk s H scope (compEnvC scope cl C X.env) fp) D (td D)) (hs : ∀ x, foldedSetIterable iter X.env x = pure x := by intro _; rfl) :
    PE X (.DictComp kx vx [⟨tg, iter, ifs, 0⟩] scope pos) (tDcA wi g tt tk tv td (own.map (·.2))) := by
  refine ⟨fun pins s σ H Q I h => ?_⟩
  rw [arm_eval_DictComp]
  refine dcA_core hc hN I hi ok hg ht hk he hds hs h fun D C s' m H' I' q hn f => ⟨m, hn, fun h'' sb => ?_⟩
  obtain ⟨f0, f1, f2, f3, f4, f5⟩ := f
  exact ⟨.ref D, H', I'.turned (t' := s'.toks) (fun b o hb e => (sb.2 b hb).trans e) f0 f1 f3 f4 f5, rfl, q⟩
end
/-- y, z go to the dict at d -/
def putD (d : Nat) (y z : AV) (M : AH) (k : AH → R AV) : R AV := match dPutA (.ref d) y z M with
  | .ok _ M1 => k M1
  | _ => .bad
def dcL (it : IT) (d : Nat) (own : List Nat) (g : CG) (t : CT) (ck cv : CE) (vs : Loc) : List AV → AH → R AV
  | [], M => if it.ok M = true then .ok (.ref d) M else .bad
  | x :: xs, M => if it.ok M = true then runG g x (wipeL vs own) M fun vs1 M1 => thenR (t vs1 M1) fun b M2 => if b = true then thenR (ck vs1 M2) fun y M3 => thenR (cv vs1 M3) fun z M4 => putD d y z M4 (dcL it d own g t ck cv vs xs) else dcL it d own g t ck cv vs xs M2 else .bad
def dcC (own : List Nat) (ci : CI) (g : CG) (t : CT) (ck cv : CE) : CE := fun vs M => (ci vs M).bind fun it M1 => dcL it M1.length own g t ck cv vs it.items (M1 ++ [.dct []])
section
variable [Tb] {X : Cx} {W : WX} {own : List Nat} {g : CG} {t : CT} {ck cv : CE} {ci : CI}
/-- the set step, by values -/
def tdA [Tb] (X : Cx) (D : Addr) : V → V → Hp → (Hp → Prop) → Prop := fun y z H Q => ∃ ι vs M σ a b d, Rel (kf X) ι vs M σ H ∧ VR (kf X) ι H a y ∧ VR (kf X) ι H b z ∧ ι[d]? = some D ∧ Out (kf X) WF (fun _ _ (_ : Unit) (_ : Unit) => True) ι vs σ H (fun _ H' => Q H') (dPutA (.ref d) a b M)
theorem pds_at (hu : X.A.units + 64 < cLine) (D : Addr) : PDs X D (tdA X D) := by
  intro pins s σ0 H y z u r Q E I ry rz ⟨ι, vs, M, σ, a, b, d, hr, ha, hb, hd, oo⟩
  unfold dPutA at oo
  obtain ⟨j, kvs, k, e, q, hk, ok, oo⟩ := dk2_cases oo
  cases e
  split at oo
  · rename_i hl
    rcases put_go hu I hr q hd ha ry hb ok hk hl with ⟨gs, ws, y', fv, hy, hm, go⟩ | ⟨ks, xs, p2, tv, rfl, rfl, hm, go⟩
    · obtain ⟨h1, h2, h3, h4, h5⟩ := fv
      refine wpAny_dictSet_pairs (hsz := by rw [← h4.length]; exact h2) hm h5 fun h' d sb => ?_
      obtain ⟨H', I', k', r'⟩ := go h' r _ rz d sb
      exact ⟨H', I', oo ι H' () (List.prefix_refl _) k' r' trivial⟩
    · obtain ⟨h1, h2, h3, h4, h5⟩ := tv
      refine wpAny_dictSet_heap (hsz := by rw [← Paired.length h4]; exact h2) (by show X.A.units + 8 < cLine; omega) hm h5 fun h' d sb => ?_
      obtain ⟨H', I', k', r'⟩ := go h' r _ rz d sb
      exact ⟨H', I', oo ι H' () (List.prefix_refl _) k' r' trivial⟩
  · exact oo.elim
theorem dc_read {ι : List Addr} {vs : Loc} {M : AH} {σ : L2.St} {H : Hp} {Q : VK} (hr : Rel (kf X) ι vs M σ H) (o : Out (kf X) W (VR (kf X)) ι vs σ H Q (dcC own ci g t ck cv vs M)) :
    tDcA (rdI (kf X) W ci) (rdO (kf X) own g) (rdT (kf X) WF t) (rdE (kf X) WF ck) (rdE (kf X) WF cv) (tdA X) own σ H Q := by
  have h0 : rdI (kf X) W ci σ H fun J H1 => ∃ ι1 it M1, Rel (kf X) ι1 vs M1 σ H1 ∧ ItR (kf X) J ι1 H1 it ∧ Out (kf X) W (VR (kf X)) ι1 vs σ H1 Q (dcL it M1.length own g t ck cv vs it.items (M1 ++ [.dct []])) :=
    Out.run hr o fun ι1 it M1 J H1 h1 h2 h3 h4 h5 => ⟨ι1, it, M1, h3, h4, h5⟩
  refine rd.imp h0 fun J H1 ⟨ι1, it, M1, h3, h4, h5⟩ D hD => ?_
  have kD : Keep H1 (upd H1 D (.dK [])) := Keep.new hD
  have r0 : Rel (kf X) (ι1 ++ [D]) vs (M1 ++ [.dct []]) σ (upd H1 D (.dK [])) := h3.snoc hD (.inl ⟨[], upd_same, .nil⟩)
  have dD : (ι1 ++ [D])[M1.length]? = some D := by rw [← h3.rep.len]; simp
  refine ⟨fun i m H' => m = it.items.length - i ∧ i ≤ it.items.length ∧ ∃ ι' M', (ι1 ++ [D]) <+: ι' ∧ Keep (upd H1 D (.dK [])) H' ∧ Rep (kf X) ι' M' H' ∧ Out (kf X) W (VR (kf X)) ι' vs σ H' Q (dcL it M1.length own g t ck cv vs (it.items.drop i) M'), ⟨_, rfl, Nat.zero_le _, _, _, List.prefix_refl _, Keep.refl _, r0.rep, ?_⟩, ?_⟩
  · have o' : Out (kf X) W (VR (kf X)) (ι1 ++ [D]) vs σ (upd H1 D (.dK [])) Q (dcL it M1.length own g t ck cv vs it.items (M1 ++ [.dct []])) := h5.base (List.prefix_append _ _) kD
    simpa using o'
  · rintro i m H' ⟨rfl, hi, ι', M', k1, k2, k3, k4⟩
    have dI : ι'[M1.length]? = some D := pre_get k1 dD
    have sl : SLs (kf X) ι' H' vs σ := h3.sl.mono ((List.prefix_append _ _).trans k1) (kD.trans k2)
    by_cases hlt : i < it.items.length
    · rw [List.drop_eq_getElem_cons hlt, dcL] at k4
      split at k4
      case isFalse => exact k4.elim
      rename_i hok
      obtain ⟨f1, f2⟩ := h4 i ι' M' H' ((List.prefix_append _ _).trans k1) (kD.trans k2) k3 hok
      obtain ⟨f3, f4⟩ := f1 _ (List.getElem?_eq_getElem hlt)
      refine .inr ⟨f3, fun H2 => ∃ ι2 M2, (ι1 ++ [D]) <+: ι2 ∧ Keep (upd H1 D (.dK [])) H2 ∧ Rep (kf X) ι2 M2 H2 ∧ Out (kf X) W (VR (kf X)) ι2 vs σ H2 Q (dcL it M1.length own g t ck cv vs (it.items.drop (i + 1)) M2), fun H2 ⟨ι2, M2, q1, q2, q3, q4⟩ => ⟨_, (by omega : it.items.length - (i + 1) < it.items.length - i), rfl, hlt, ι2, M2, q1, q2, q3, q4⟩, fun v H2 hy => ?_⟩
      obtain ⟨p1, p2, p3⟩ := f4 v H2 hy
      have rep2 := k3.keep p1 p2
      have sl2 := sl.mono (List.prefix_refl _) p1
      refine ⟨ι', wipeL vs own, M', _, ⟨sl2.wipe own, rep2⟩, p3, ?_⟩
      unfold runG at k4
      cases eg : g it.items[i] (wipeL vs own) M' with
      | nx vs1 M1' =>
        rw [eg] at k4
        dsimp only at k4
        refine fun ι3 H3 σ3 w1 w2 w3 w4 => ⟨w4.trans wipe_wipe, ?_⟩
        have kk : Keep H' H3 := p1.trans w2
        have sl3 : SLs (kf X) ι3 H3 vs σ := sl2.mono w1 w2
        refine ⟨ι3, vs1, M1', w3, (Out.thenR (rel := relT) (vs' := vs1) (σ' := σ3) sl3 (k4.base w1 kk)).imp fun ι' H'' b b' M'' _ _ _ _ ⟨ι4, b2, M2, c1, c2, c3, c4, c5⟩ => ?_⟩
        subst c4
        have P4 : (ι1 ++ [D]) <+: ι4 := (k1.trans w1).trans c1
        have K4 : Keep (upd H1 D (.dK [])) H'' := (k2.trans kk).trans c2
        cases b2 with
        | false =>
          rw [if_neg (by decide)] at c5 ⊢
          exact ⟨ι4, M2, P4, K4, c3.rep, c5⟩
        | true =>
          rw [if_pos rfl] at c5 ⊢
          refine ⟨ι4, vs1, M2, c3, (Out.thenR (rel := VR (kf X)) (vs' := vs1) (σ' := σ3) (sl3.mono c1 c2) c5).imp fun ι' H5 y y' M5 _ _ _ _ ⟨ι5, y2, M3, d1, d2, d3, d4, d5⟩ => ?_⟩
          refine ⟨ι5, vs1, M3, d3, (Out.thenR (rel := VR (kf X)) (vs' := vs1) (σ' := σ3) ((sl3.mono c1 c2).mono d1 d2) d5).imp fun ι' H6 z z' M6 _ _ _ _ ⟨ι6, z2, M4, e1, e2, e3, e4, e5⟩ => ?_⟩
          have P6 : (ι1 ++ [D]) <+: ι6 := (P4.trans d1).trans e1
          have K6 : Keep (upd H1 D (.dK [])) H6 := (K4.trans d2).trans e2
          refine ⟨ι6, vs1, M4, σ3, y2, z2, M1.length, e3, d4.mono e1 e2, e4, pre_get P6 dD, ?_⟩
          unfold putD at e5
          cases ed : dPutA (.ref M1.length) y2 z2 M4 with
          | ok a M7 =>
            rw [ed] at e5
            exact fun ι7 H7 _ a1 a2 a3 _ => ⟨ι7, M7, P6.trans a1, K6.trans a2, a3.rep, e5.base a1 a2⟩
          | exc c fs M7 => rw [ed] at e5; exact e5.elim
          | bad => rw [ed] at e5; exact e5.elim
      | bk a b => rw [eg] at k4; exact k4.elim
      | ct a b => rw [eg] at k4; exact k4.elim
      | rt a b => rw [eg] at k4; exact k4.elim
      | exc a b c d => rw [eg] at k4; exact k4.elim
      | bad => rw [eg] at k4; exact k4.elim
    · have e : i = it.items.length := by omega
      subst e
      rw [List.drop_length, dcL] at k4
      split at k4
      case isFalse => exact k4.elim
      rename_i hok
      obtain ⟨f1, f2⟩ := h4 _ ι' M' H' ((List.prefix_append _ _).trans k1) (kD.trans k2) k3 hok
      exact .inl ⟨f2 rfl, Out.fin ⟨sl, k3⟩ k4 (by rw [vr_ref]; exact ⟨D, dI, rfl⟩)⟩
theorem ev_dc {k : Nat} {kx vx tg iter : Expr} {ifs : List Expr} {scope : Scope} {ownp : List (Str × Nat)} {pos : Pos} (B : Be X W k) (hi : EvI X W tg iter ci) (ok : BlkOk X.N X.env.scope scope ownp)
    (hg : BlkC X scope fun Y => EvTg Y (ownp.map (·.2)) tg g) (ht : BlkC X scope fun Y => PTs Y ifs (rdT (kf X) WF t))
    (hk : BlkC X scope fun Y => EvE Y WF kx ck) (hv : BlkC X scope fun Y => EvE Y WF vx cv) (hs : ∀ x, foldedSetIterable iter X.env x = pure x := by intro _; rfl) :
    EvE X W (.DictComp kx vx [⟨tg, iter, ifs, 0⟩] scope pos) (dcC (ownp.map (·.2)) ci g t ck cv) :=
  PE.imp (pe_dcA (td := tdA X) B.calm B.nd hi ok hg ht hk hv (fun s H C cl fp D => pds_at (X := X.blk s H scope (compEnvC scope cl C X.env) fp) B.room.units D) hs) fun σ H Q ⟨ι, vs, M, hr, o⟩ => dc_read hr o
theorem es_setDc {k : Nat} {y : Str} {py : Pos} {kx vx tg iter : Expr} {ifs : List Expr} {scope : Scope} {ownp : List (Str × Nat)} {pos spos : Pos} (i : Nat) (B : Be X W k) (hi : EvI X W tg iter ci) (ok : BlkOk X.N X.env.scope scope ownp)
    (hg : BlkC X scope fun Y => EvTg Y (ownp.map (·.2)) tg g) (ht : BlkC X scope fun Y => PTs Y ifs (rdT (kf X) WF t))
    (hk : BlkC X scope fun Y => EvE Y WF kx ck) (hv : BlkC X scope fun Y => EvE Y WF vx cv) (hy : X.N[i]? = some y := by rfl) (hyl : X.env.scope.names.lookup y = some .local := by rfl) (hsw : swapsWith (.DictComp kx vx [⟨tg, iter, ifs, 0⟩] scope pos) (some (.Name y py)) spos.line X.env = pure true := by rfl) (hs : ∀ x, foldedSetIterable iter X.env x = pure x := by intro _; rfl) :
    EvS X W (.Assign [.Name y py] (.DictComp kx vx [⟨tg, iter, ifs, 0⟩] scope pos) spos) (asgC (dcC (ownp.map (·.2)) ci g t ck cv) (nameG i)) := by
  refine ⟨fun pins s σ H D I ⟨ι, vs, M, hr, o⟩ => ?_⟩
  have h1 : rdE (kf X) W (dcC (ownp.map (·.2)) ci g t ck cv) σ H fun v H1 => gName i v σ H1 D.nx :=
    OutS.run (k := fun a M1 => onlyG (nameG i a vs M1)) hr o fun ι1 a M1 b H1 h1 h2 h3 h4 h5 => OutS.fin (h3.slot h4) h5
  obtain ⟨ι1, vs1, M1, hr1, o1⟩ := h1
  rw [exec_Assign_Name_used _ _ _ _ hsw]
  refine wpAny_bind (wpAny_standAt (wpAny_bind ?_))
  show wpAny _ X.A (do let _ ← comprehension (.DictComp kx vx [⟨tg, iter, ifs, 0⟩] scope pos) scope X.env (firstIterPos [⟨tg, iter, ifs, 0⟩] pos) newDict false (eval iter X.env) (some (assign (.Name y py) X.env))) _ _ s
  refine wpAny_bind (thn (dcA_core (td := tdA X) (Qf := fun _ s' => SP X pins D .next s') B.calm B.nd I hi ok hg ht hk hv (fun s H C cl fp D => pds_at (X := X.blk s H scope (compEnvC scope cl C X.env) fp) B.room.units D) hs (dc_read hr1 o1) fun L C s' m H' I' q hn f => ?_) fun _ s' hq => wpAny_pure (wpAny_pure hq))
  show wpAny _ _ (assign (.Name y py) X.env (.ref L)) _ _ _
  refine wpAny_assign_Name (store_ok2 (v := V.ref L) I' B.nd hy (.inl hyl) rfl (fun s2 I2 ⟨a, sb, ha⟩ => ?_) (.inr hyl))
  obtain ⟨f0, f1, f2, f3, f4, f5⟩ := f
  have haC : C ≠ a := by
    rcases ha with z | z
    · rw [z]; exact f1
    · exact fun e => f4 y a z e.symm
  refine ⟨m, hn.sameBut sb haC, fun h3 sb3 => ?_⟩
  exact ⟨_, H', I2.turned (t' := s2.toks) (fun b o hb e => (sb3.2 b hb).trans e) f0 f1 f3 f4 f5, q⟩
end
end AM
end

section
set_option Elab.async false
set_option linter.all false
set_option autoImplicit false
set_option maxRecDepth 100000
set_option maxHeartbeats 4000000
/-! AM 19: more expressions: class names, chained comparisons, list(range(..)), list(d.items()), sorted, repr. -/
namespace AM
open PySem PySem.Spec L2
section
variable [Tb] {X : Cx} {W : WX} {a b c e : Expr} {pos p apos cpos : Pos} {ca cb cc ce : CE} {x : Str} {k : Nat}
/-- a built-in class by its name -/
theorem ev_bty {T : String} (hg : Gl X x) (hm : X.mg x = none) (hv : bootBuiltins x = some (.type T)) (hn : x ≠ "__name__" := by decide +kernel) (hd : (x == ("__debug__" : Str)) = false := by decide +kernel) : EvE X W (.Name x pos) (conC (.ty T)) :=
  ev_con (t := tC (.ty T)) (pe_bltn hg hm hv (v := .ty T) rfl hn hd) fun _ _ => by rw [vr_ty]
/-! chains -/
def chnC (op op' : AV → AV → AH → R AV) (ca cb cc : CE) : CE := fun vs M => (ca vs M).bind fun a M1 => (cb vs M1).bind fun b M2 => (op a b M2).bind fun r M3 => match r with
  | .bl true => (cc vs M3).bind fun c M4 => op' b c M4
  | .bl false => .ok (.bl false) M3
  | _ => .bad
theorem chn_vals {op op' : AV → AV → AH → R AV} {σ : L2.St} {H : Hp} {Q : VK} (h : rdE (kf X) W (chnC op op' ca cb cc) σ H Q) :
    tChain (rd2 (kf X) W op) (rd2 (kf X) W op') (rdE (kf X) W ca) (rdE (kf X) W cb) (rdE (kf X) W cc) σ H Q := by
  obtain ⟨ι, vs, M, hr, o⟩ := h
  refine Out.run hr o fun ι1 a M1 v H1 h1 h2 h3 h4 h5 => Out.run h3 h5 fun ι2 b M2 w H2 g1 g2 g3 g4 g5 => ?_
  refine ⟨ι2, vs, M2, σ, a, b, g3, h4.mono g1 g2, g4, (Out.bind g5).imp fun ι' H' z v' M' k1 k2 k3 k4 ⟨ι3, a3, M3, p1, p2, p3, p4, p5⟩ => ?_⟩
  cases a3 with
  | bl kk =>
    rw [vr_bl] at p4
    refine ⟨kk, p4, ?_⟩
    cases kk with
    | true =>
      rw [if_pos rfl]
      exact Out.run p3 p5 fun ι4 c M4 u H4 q1 q2 q3 q4 q5 => ⟨ι4, vs, M4, σ, b, c, q3, (g4.mono p1 p2).mono q1 q2, q4, q5⟩
    | false =>
      rw [if_neg (by decide)]
      exact Out.fin p3 p5 (by rw [vr_bl])
  | _ => exact p5.elim
theorem ev_chain {o o' : CmpOp} {op op' : AV → AV → AH → R AV} (ho : OpR X (compareOp o) (rd2 (kf X) W op)) (ho' : OpR X (compareOp o') (rd2 (kf X) W op')) (ha : EvE X W a ca) (hb : EvE X W b cb) (hc : EvE X W c cc)
    (hm : lastMarks [o, o'] [b, c] = false := by with_unfolding_all rfl) : EvE X W (.Compare a [o, o'] [b, c] pos) (chnC op op' ca cb cc) :=
  PE.imp (pe_chain ho ho' ha hb hc hm) fun σ H Q h => chn_vals h
def tstC (c : CE) : CT := fun vs M => (c vs M).bind tstA
theorem et_chain {o o' : CmpOp} {op op' : AV → AV → AH → R AV} (ho : OpR X (compareOp o) (rd2 (kf X) W op)) (ho' : OpR X (compareOp o') (rd2 (kf X) W op')) (ha : EvE X W a ca) (hb : EvE X W b cb) (hc : EvE X W c cc)
    (hm : lastMarks [o, o'] [b, c] = false := by with_unfolding_all rfl) : EvT X W (.Compare a [o, o'] [b, c] pos) (tstC (chnC op op' ca cb cc)) :=
  PT.imp (pt_chain ho ho' ha hb hc hm) fun σ H Q ⟨ι, vs, M, hr, o⟩ => chn_vals (Out.run hr o fun ι1 a M1 v H1 h1 h2 h3 h4 h5 => by
    cases a with
    | bl kk => rw [vr_bl] at h4; exact ⟨kk, h4, Out.fin h3 h5 rfl⟩
    | _ => exact h5.elim)
/-! list(range(..)), tuple(range(..)) -/
def rgL (lo hi : Int) : List AV := (List.range (hi - lo).toNat).map fun i => .int (lo + (i : Nat))
instance (lo hi : Int) : Decidable (RgOk lo hi) := by unfold RgOk; infer_instance
def rgB (lo hi : Int) : Bool := decide (RgOk lo hi)
def listRg (as : List AV) (M : AH) : R AV := match as with
  | [.int n] => if rgB 0 n = true then newL (rgL 0 n) M else .bad
  | [.int m, .int n] => if rgB m n = true then newL (rgL m n) M else .bad
  | _ => .bad
theorem rgl_vrs {κ : Cfg} {ι : List Addr} {H : Hp} {lo hi : Int} : VRs κ ι H (rgL lo hi) (rgV lo hi) := by
  unfold rgL rgV
  generalize (hi - lo).toNat = n
  have : ∀ l : List Nat, VRs κ ι H (l.map fun i => .int (lo + (i : Nat))) (l.map fun i => V.int (lo + (i : Nat))) := fun l => by
    induction l with
    | nil => exact .nil
    | cons i l ih => exact .cons (by rw [vr_int]) ih
  exact this _
theorem rgl_go {ι : List Addr} {vs : Loc} {M : AH} {σ : L2.St} {H : Hp} {Q : VK} {lo hi : Int} (hr : Rel (kf X) ι vs M σ H) (o : Out (kf X) W (VR (kf X)) ι vs σ H Q (if rgB lo hi = true then newL (rgL lo hi) M else .bad)) :
    RgOk lo hi ∧ ∀ q, H q = none → Q (.ref q) (upd H q (.lst (rgV lo hi))) := by
  split at o
  case isFalse => exact o.elim
  rename_i h
  exact ⟨of_decide_eq_true h, (Out.newL hr rgl_vrs o).2⟩
theorem ev_listRg1 (hc : X.calm = true) (hg : Gl X "list") (hm : X.mg "list" = none) (hg2 : Gl X "range") (hm2 : X.mg "range" = none) (ha : EvE X W a ca) {p2 pos2 : Pos} (na : starEach [a] X.env = (false, eval a X.env) :: starEach [] X.env := by rfl)
    (nb : starEach [.Call (.Name "range" p2) [a] [] pos2] X.env = (false, eval (.Call (.Name "range" p2) [a] [] pos2) X.env) :: starEach [] X.env := by rfl) : EvE X W (.Call (.Name "list" p) [.Call (.Name "range" p2) [a] [] pos2] [] pos) (argsC listRg (consA ca nilA)) :=
  PE.imp (pe_listRg hc hg hm (prg_1 hg2 hm2 ha na) nb) fun σ H Q ⟨ι, vs, M, hr, o⟩ => Out.run hr (show Out (kf X) W (VR (kf X)) ι vs σ H Q ((ca vs M).bind fun a M1 => listRg [a] M1) from by
    cases q : ca vs M with
    | ok a M1 => have := o; unfold argsC consA nilA at this; rw [q] at this; exact this
    | exc c fs M1 => have := o; unfold argsC consA nilA at this; rw [q] at this; exact this
    | bad => have := o; unfold argsC consA nilA at this; rw [q] at this; exact this) fun ι1 a M1 v H1 h1 h2 h3 h4 h5 => by
    unfold listRg at h5
    split at h5
    · rename_i n e
      cases e
      rw [vr_int] at h4
      exact ⟨n, h4, rgl_go h3 h5⟩
    · rename_i e; cases e
    · exact h5.elim
theorem ev_listRg2 (hc : X.calm = true) (hg : Gl X "list") (hm : X.mg "list" = none) (hg2 : Gl X "range") (hm2 : X.mg "range" = none) (ha : EvE X W a ca) (hb : EvE X W b cb) {p2 pos2 : Pos} (na : starEach [a, b] X.env = (false, eval a X.env) :: starEach [b] X.env := by rfl)
    (nb : starEach [b] X.env = (false, eval b X.env) :: starEach [] X.env := by rfl) (hp : (backTo pos2 (starEach [b] X.env)).any (·.1) = false := by rfl)
    (nc : starEach [.Call (.Name "range" p2) [a, b] [] pos2] X.env = (false, eval (.Call (.Name "range" p2) [a, b] [] pos2) X.env) :: starEach [] X.env := by rfl) : EvE X W (.Call (.Name "list" p) [.Call (.Name "range" p2) [a, b] [] pos2] [] pos) (bin2 (fun a b => listRg [a, b]) ca cb) :=
  PE.imp (pe_listRg hc hg hm (prg_2 hg2 hm2 ha hb na nb hp) nc) fun σ H Q ⟨ι, vs, M, hr, o⟩ => Out.run hr o fun ι1 a M1 v H1 h1 h2 h3 h4 h5 => Out.run h3 h5 fun ι2 b M2 w H2 g1 g2 g3 g4 g5 => by
    dsimp only at g5
    unfold listRg at g5
    split at g5
    · rename_i n e; cases e
    · rename_i m n e
      cases e
      rw [vr_int] at h4 g4
      exact ⟨m, n, h4, g4, rgl_go g3 g5⟩
    · exact g5.elim
/-! list(d.items()), int or text keys -/
def itemsL (a : AV) (M : AH) : R AV := match dctOf a M with
  | some (_, kvs) => if (kvs.all fun p => isFl p.1) = true then .ok (.ref M.length) (M ++ [.lst (kvs.map fun p => .tup [p.1, p.2])]) else .bad
  | none => .bad
theorem kr_vr {κ : Cfg} {ι : List Addr} {H : Hp} {a : AV} {y : Key} (h : KR a y) : VR κ ι H a (kV y) := by
  cases h with
  | int i => rw [vr_int]; rfl
  | str s => rw [vr_str]; rfl
theorem Rep.add {κ : Cfg} {ι : List Addr} {M : AH} {H : Hp} {o : AO} {p : Addr} (r : Rep κ ι M H) (np : p ∉ ι) (ho : OR κ (ι ++ [p]) H o p) : Rep κ (ι ++ [p]) (M ++ [o]) H := by
  refine ⟨by simp [r.len], ?_, fun i o' a e ea => ?_, r.tab⟩
  · rw [List.nodup_append]
    exact ⟨r.nd, by simp, fun a ha b hb => by
      have : b = p := by simpa using hb
      subst this
      exact fun z => np (z ▸ ha)⟩
  · by_cases hi : i < M.length
    · rw [List.getElem?_append_left hi] at e
      rw [List.getElem?_append_left (by rw [r.len]; exact hi)] at ea
      exact (r.obj i o' a e ea).mono (List.prefix_append _ _) (Keep.refl _) rfl
    · have hi' : i = M.length := by
        have := (List.getElem?_eq_some_iff.mp e).1
        simp at this; omega
      subst hi'
      rw [List.getElem?_append_right (Nat.le_refl _)] at e
      rw [List.getElem?_append_right (by rw [r.len]; exact Nat.le_refl _)] at ea
      simp at e
      rw [r.len, Nat.sub_self] at ea
      simp at ea
      subst e; subst ea
      exact ho
theorem ev_listItems (hc : X.calm = true) (he : EvE X W e ce) (hg : Gl X "list") (hm : X.mg "list" = none) (hbase : attributeBase e "items" X.env (eval e X.env) = eval e X.env := by rfl) (hline : (apos.endLine == cpos.line) = true := by rfl)
    (hs : starEach [.Call (.Attribute e "items" apos) [] [] cpos] X.env = (false, eval (.Call (.Attribute e "items" apos) [] [] cpos) X.env) :: starEach [] X.env := by rfl) :
    EvE X W (.Call (.Name "list" p) [.Call (.Attribute e "items" apos) [] [] cpos] [] pos) (un1 itemsL ce) :=
  PE.imp (LiI.pe_listItems hc he hg hm (by decide +kernel) hbase hline hs) fun σ H Q ⟨ι, vs, M, hr, o⟩ => Out.run hr o fun ι1 a M1 v H1 h1 h2 h3 h4 h5 => by
    unfold itemsL at h5
    split at h5
    case h_2 => exact h5.elim
    rename_i i kvs ed
    split at h5
    case isFalse => exact h5.elim
    rename_i hfl
    unfold dctOf at ed
    split at ed
    case h_2 => cases ed
    rename_i i'
    split at ed
    case h_2 => cases ed
    rename_i kvs' em
    cases ed
    rw [vr_ref] at h4
    obtain ⟨d, ei, rfl⟩ := h4
    rcases h3.rep.at_ em ei with ⟨gs, k1, k2⟩ | ⟨ks, k1, k2, hne⟩
    · refine ⟨d, gs, rfl, k1, fun H' q ts ext nq nts nqt hq hp => ?_⟩
      have kp : Keep H1 H' := ⟨fun a xs e => ext _ _ e, fun a o u e => ext _ _ e⟩
      have rep' : Rep (kf X) ι1 M1 H' := h3.rep.keep kp fun a u e => (ext _ _ e).trans e.symm
      have items : ∀ {kvs : List (AV × AV)} {gs : List (Key × V)} {ts : List Addr}, DR (kf X) ι1 H1 kvs gs → Paired (fun (t : Addr) (q : Key × V) => H' t = some (.tup [kV q.1, q.2])) ts gs → VRs (kf X) (ι1 ++ [q]) H' (kvs.map fun p => .tup [p.1, p.2]) (ts.map V.ref) := by
        intro kvs gs ts h1 h2
        induction h1 generalizing ts with
        | nil => cases h2; exact .nil
        | cons r t ih =>
          cases h2 with
          | cons r2 t2 =>
            refine .cons ?_ (ih t2)
            rw [vr_tup]
            refine ⟨_, _, rfl, SqT.of r2, .cons ?_ (.cons (r.2.mono (List.prefix_append _ _) kp) .nil)⟩
            exact kr_vr r.1
      refine h5 (ι1 ++ [q]) H' _ (List.prefix_append _ _) kp ⟨h3.sl.mono (List.prefix_append _ _) kp, rep'.add (h3.rep.fresh nq) ⟨_, hq, items k2 hp⟩⟩ ?_
      rw [vr_ref]
      exact ⟨q, by rw [← h3.rep.len]; simp, rfl⟩
    · exact absurd (tr_tp k2 hfl).1 hne
end
end AM
end

section
set_option Elab.async false
set_option linter.all false
set_option autoImplicit false
set_option maxRecDepth 100000
set_option maxHeartbeats 4000000
/-! AM 20: sorted, repr. -/
namespace AM
open PySem PySem.Spec L2
/-- as data -/
def datK (M : AH) (a : AV) : PyData := (datS M a).getD .none
def tupB : PyData → Bool
  | .tuple (_ :: _) => true
  | _ => false
def othB : PyData → Bool
  | .none => false
  | .tuple _ => false
  | _ => true
def sortOk (M : AH) (xs : List AV) : Bool := (xs.all fun x => (datS M x).isSome) && (xs.all fun x => xs.all fun y => PySem.W.alike (datK M x) (datK M y)) && ((xs.all fun x => tupB (datK M x)) || xs.all fun x => othB (datK M x))
def sortA (M : AH) (xs : List AV) : List AV := xs.mergeSort (PySem.W.dataLe false (datK M))
def sortedA (as : List AV) (M : AH) : R AV := match as with
  | [x] => match lstOf x M with
    | some xs => if sortOk M xs = true ∧ xs.length ≤ sizeLine then newL (sortA M xs) M else .bad
    | none => .bad
  | _ => .bad
def reprA (as : List AV) (M : AH) : R AV := match as with
  | [.ref i] => match datS M (.ref i) with
    | some d => if d.showable = true ∧ d.hasDict = false ∧ d.shown.length ≤ sizeLine then .ok (.str d.shown) M else .bad
    | none => .bad
  | [.tup xs] => match datS M (.tup xs) with
    | some d => if d.showable = true ∧ d.hasDict = false ∧ d.shown.length ≤ sizeLine then .ok (.str d.shown) M else .bad
    | none => .bad
  | _ => .bad
section
variable [Tb] {X : Cx} {W : WX} {k : Nat}
theorem sortable_of {M : AH} {xs : List AV} (h : ((xs.all fun x => tupB (datK M x)) || xs.all fun x => othB (datK M x)) = true) : PySem.W.Sortable (xs.map (datK M)) := by
  rcases Bool.or_eq_true_iff.mp h with h | h
  · refine .inl fun d hd => ?_
    obtain ⟨x, hx, rfl⟩ := List.mem_map.mp hd
    have := List.all_eq_true.mp h x hx
    unfold tupB at this
    split at this
    · rename_i y r e; exact ⟨y, r, e⟩
    · cases this
  · refine .inr fun d hd => ?_
    obtain ⟨x, hx, rfl⟩ := List.mem_map.mp hd
    have := List.all_eq_true.mp h x hx
    refine ⟨fun e => ?_, fun ys e => ?_⟩
    · rw [e] at this; cases this
    · rw [e] at this; cases this
theorem vrs_each {κ : Cfg} {ι : List Addr} {H : Hp} : ∀ {xs : List AV} {ws : List V} {its : List Value}, VRs κ ι H xs ws → Vals ws its → PySem.W.EachIs (fun u a => VRV κ ι H a u) its xs
  | [], ws, its, h, r => by
    obtain rfl := h.nil_inv
    cases r
    exact .nil
  | x :: xs, ws, its, h, r => by
    obtain ⟨v, ws', rfl, h1, h2⟩ := h.cons_inv
    cases r with
    | cons r1 r2 => exact .cons ⟨v, h1, r1⟩ (vrs_each h2 r2)
theorem each_vrs {κ : Cfg} {ι : List Addr} {H : Hp} : ∀ {xs : List AV} {its : List Value}, PySem.W.EachIs (fun u a => VRV κ ι H a u) its xs → ∃ ws, VRs κ ι H xs ws ∧ Vals ws its
  | _, _, .nil => ⟨[], .nil, .nil⟩
  | _, _, .cons ⟨v, h1, r1⟩ t => by
    obtain ⟨ws, h2, r2⟩ := each_vrs t
    exact ⟨v :: ws, .cons h1 h2, .cons r1 r2⟩
theorem each_reads {pins : List (Addr × Obj)} {σ0 : L2.St} {H : Hp} {s : Shared} {ι : List Addr} {M : AH} (I : Inv X pins σ0 H s) (rep : Rep (kf X) ι M H) : ∀ {xs : List AV} {its : List Value}, (xs.all fun x => (datS M x).isSome) = true → PySem.W.EachIs (fun u a => VRV (kf X) ι H a u) its xs → PySem.W.EachIs (fun u a => ∃ as, Reads s.heap u (datK M a) as) its xs
  | _, _, _, .nil => .nil
  | x :: xs, u :: us, h, .cons ⟨v, h1, r1⟩ t => by
    rw [List.all_cons, Bool.and_eq_true] at h
    refine .cons ?_ (each_reads I rep h.2 t)
    obtain ⟨d, hd⟩ := Option.isSome_iff_exists.mp h.1
    obtain ⟨dp, _⟩ := datS_dp rep hd h1
    obtain ⟨as, r⟩ := Dp.reads I d v u dp r1
    exact ⟨as, by unfold datK; rw [hd]; exact r⟩
theorem datS_depth {M : AH} {a : AV} {d : PyData} (h : datS M a = some d) : d.depth ≤ 64 := by
  unfold datS at h
  split at h
  · split at h
    · rename_i hs
      cases h
      exact SeqAt.depth_of_shaped hs
    · cases h
  · cases h
theorem cr_sorted (B : Be X W k) : CallR X (.builtin "sorted") (rdN (kf X) W sortedA) := by
  intro pins s σ0 H xs us Q I r ⟨ι, vs, M, σ, as, hr, ha, o⟩
  unfold sortedA at o
  split at o
  case h_2 => exact o.elim
  rename_i x
  split at o
  case h_2 => exact o.elim
  rename_i ys ey
  split at o
  case isFalse => exact o.elim
  rename_i hc
  obtain ⟨hs, hlen⟩ := hc
  unfold sortOk at hs
  rw [Bool.and_eq_true, Bool.and_eq_true] at hs
  obtain ⟨⟨h1, h2⟩, h3⟩ := hs
  obtain ⟨vx, ws1, rfl, g1, g2⟩ := ha.cons_inv
  obtain rfl := g2.nil_inv
  obtain ⟨u, rfl, ru⟩ := vals1 r
  obtain ⟨p, ws, rfl, hp, hw⟩ := lst_rel hr.rep ey g1
  cases (show u = Value.ref p from ru)
  obtain ⟨its, rv, pl, hz⟩ := I.list hp
  have E1 := vrs_each hw rv
  have E2 := each_reads I hr.rep h1 E1
  refine PySem.W.sorted_data (bs := ys) (enc := datK M) pl.isList E1 E2 (fun d hd d' hd' => ?_) (sortable_of h3) hlen (fun b hb => ?_) fun out hl e => ?_
  · obtain ⟨x, hx, rfl⟩ := List.mem_map.mp hd
    obtain ⟨y, hy, rfl⟩ := List.mem_map.mp hd'
    exact List.all_eq_true.mp (List.all_eq_true.mp h2 x hx) y hy
  · obtain ⟨d, hd⟩ := Option.isSome_iff_exists.mp (List.all_eq_true.mp h1 b hb)
    have hdp := datS_depth hd
    have := B.room.un
    unfold datK
    rw [hd]
    show X.A.units + 2 + d.depth < cLine
    omega
  · obtain ⟨ws', hw', rv'⟩ := each_vrs e
    obtain ⟨ep, he'⟩ := PyProof.Rows.sortedAll_at s.heap its (List.toArray out)
    obtain ⟨q1, q2⟩ := Out.newL (xs := sortA M ys) hr hw' o
    refine ⟨.ref (s.heap.objs.size + 1), upd H (s.heap.objs.size + 1) (.lst ws'), I.laid (t' := s.toks) (fun _ _ => PyProof.Rows.sortedAll_old) (Nat.le_succ _) ⟨q1, out, ep, rv', he'⟩, rfl, q2 _ (I.hok.fresh (Nat.le_succ _))⟩
theorem repr_go (B : Be X W k) {pins : List (Addr × Obj)} {σ0 : L2.St} {H : Hp} {s : Shared} {Q : VK} {ι : List Addr} {vs : Loc} {M : AH} {σ : L2.St} {a : AV} {p : Addr} {d : PyData} (I : Inv X pins σ0 H s) (hr : Rel (kf X) ι vs M σ H) (ha : VR (kf X) ι H a (.ref p)) (hd : datS M a = some d)
    (hc : d.showable = true ∧ d.hasDict = false ∧ d.shown.length ≤ sizeLine) (o : Out (kf X) W (VR (kf X)) ι vs σ H Q (.ok (.str d.shown) M)) : wpAny (model X.prog X.w) X.A (call (.builtin "repr") [.ref p]) (EP X pins σ0 Q) X.xe s := by
  obtain ⟨h1, h2, h3⟩ := hc
  obtain ⟨dp, _⟩ := datS_dp hr.rep hd ha
  obtain ⟨as, rd⟩ := Dp.reads I d _ _ dp (rfl : RelV (.ref p) (.ref p))
  have hdp := datS_depth hd
  have := B.room.un
  exact PySem.repr_of_reads' (hsz := h3) rd h1 (fun z => by rw [h2] at z; cases z) B.gd (by omega) (fun _ _ e => e) fun h' u tk hk => ⟨.str d.shown, H, I.kept hk, ⟨u, rfl⟩, Out.fin hr o (by rw [vr_str])⟩
theorem cr_repr (B : Be X W k) : CallR X (.builtin "repr") (rdN (kf X) W reprA) := by
  intro pins s σ0 H xs us Q I r ⟨ι, vs, M, σ, as, hr, ha, o⟩
  unfold reprA at o
  split at o
  · split at o
    case h_2 => exact o.elim
    rename_i d hd
    split at o
    case isFalse => exact o.elim
    rename_i hc
    obtain ⟨vx, ws1, rfl, g1, g2⟩ := ha.cons_inv
    obtain rfl := g2.nil_inv
    obtain ⟨u, rfl, ru⟩ := vals1 r
    have g1' := g1
    rw [vr_ref] at g1'
    obtain ⟨p, _, rfl⟩ := g1'
    cases (show u = Value.ref p from ru)
    exact repr_go B I hr g1 hd hc o
  · split at o
    case h_2 => exact o.elim
    rename_i d hd
    split at o
    case isFalse => exact o.elim
    rename_i hc
    obtain ⟨vx, ws1, rfl, g1, g2⟩ := ha.cons_inv
    obtain rfl := g2.nil_inv
    obtain ⟨u, rfl, ru⟩ := vals1 r
    have g1' := g1
    rw [vr_tup] at g1'
    obtain ⟨p, _, rfl, _⟩ := g1'
    cases (show u = Value.ref p from ru)
    exact repr_go B I hr g1 hd hc o
  · exact o.elim
end
end AM
end

section
set_option Elab.async false
set_option linter.all false
set_option autoImplicit false
set_option maxRecDepth 100000
set_option maxHeartbeats 4000000
/-! AM 21: the script; the end of a law. -/
namespace AM
open PySem PySem.Spec PyProof.Rows L2

/-! ### the script -/
def listScr (i : Nat) : CE := fun vs M => match vs[i]? with
  | some (some (.scr ns)) => newL (ns.map .int) M
  | _ => .bad
theorem ints_vrs {κ : Cfg} {ι : List Addr} {H : Hp} : ∀ ns : List Int, VRs κ ι H (ns.map .int) (ns.map V.int)
  | [] => .nil
  | n :: ns => .cons (by rw [vr_int]) (ints_vrs ns)
section
variable [Tb] {X : Cx} {W : WX} {x : Str} {p pos q : Pos}
theorem ev_listScr (i : Nat) (hg : Gl X "list") (hm : X.mg "list" = none) (hN : X.N[i]? = some x := by rfl) (hv : Vis X.env.scope x := by first | exact Or.inl rfl | exact Or.inr (Or.inl rfl) | exact Or.inr (Or.inr rfl)) (hd : (x == ("__debug__" : Str)) = false := by decide +kernel)
    (hcd : (x == ("__classdict__" : Str)) = false := by decide +kernel) (na : starEach [.Name x q] X.env = (false, eval (.Name x q) X.env) :: starEach [] X.env := by rfl) : EvE X W (.Call (.Name "list" p) [.Name x q] [] pos) (listScr i) := by
  have h := pe_callTy (X := X) (T := "list") (x := "list") (p := p) (pos := pos) call_list_of hg hm (by decide +kernel) (pa_cons (pe_var (i := i) (pos := q) hN hv hd hcd) pa_nil na) (by decide +kernel) (by decide +kernel) na rfl
  refine PE.imp h fun σ H Q ⟨ι, vs, M, hr, o⟩ => ?_
  unfold listScr at o
  split at o
  case h_2 => exact o.elim
  rename_i ns e
  obtain ⟨v, e1, a, rfl, sc⟩ := hr.sl.at_ i _ e
  exact ⟨_, e1, a, _, rfl, .inl sc.sq, (Out.newL hr (ints_vrs ns) o).2⟩
end

/-! ### the end -/
theorem law_callG {P : Program} {w : World} {K : PySem.W.Frag} {mg mb : Str → Option Value} {T : List (Addr × Str)} {k : Nat} {fa a : Addr} {cs : List (Addr × Addr)} {fd : FuncData} {x : Str} {sp : Heap → Sp} {s₁ : Shared} {vs : List Value} {ns : List Int}
    (KX : K.In s₁.heap) (hns : s₁.heap.Ns mainGlobals mg) (hb : s₁.heap.Ns builtinsNs mb) (hbb : ∀ x : Str, x ≠ "__name__" → mb x = bootBuiltins x) (hlim : s₁.heap.NoLimit) (hg : s₁.gens = #[])
    (hT : ∀ p ∈ cs, s₁.heap.get? p.2 = some { cls := .none, data := .fields #[] }) (nT : ∀ p ∈ cs, K.lookup p.2 = none) (C : ∀ p ∈ cs, PySem.W.CodeHd s₁.heap p.1 p.2)
    (hbm : ∃ (bm : Addr) (ob : Obj), mg "__builtins__" = some (.ref bm) ∧ bm ≠ builtinsNs ∧ s₁.heap.get? bm = some ob ∧ ob.cls = .type "module" ∧ ob.dict = some builtinsNs ∧ ob.data = .plain)
    (ha : s₁.heap.get? a = some { cls := .type "list", data := .seq vs.toArray }) (hi : IntsAre vs ns) (hl : ns.length ≤ sizeLine) (hr : Room k callerA)
    (F : ∀ base : Heap, K.In base → base.Ns mainGlobals mg → (∀ p ∈ cs, LamX.TabB base mg p.1 p.2) → FnG ⟨K, mg, P, w, base, T⟩ k fa fd [x] (sp base)) (hbind : ∀ (s : Shared) (u : Value), BindsTo s fd ⟨[u], []⟩ [(x, u)])
    (hsp : ∀ (base : Heap) (H : Hp), (∀ p ∈ cs, H p.2 = some (.tbl #[])) → Scr K H a ns → sp base [.ref a] H (fun v _ => v = .bl true) fun _ _ _ => False) :
    codeAny (model P w) callerA (.call (.ref fa) ⟨[.ref a], []⟩) (fun r s' => r = .ok (.ret (.bool true)) ∧ OldK s₁.heap s'.heap ∧ s'.os = s₁.os ∧ AllBare s'.gens) s₁ := by
  have rv := vals_ints hi
  have lenV := hi.length
  have isT : ∀ b : Addr, b ∈ cs.map (·.2) → s₁.heap.get? b = some { cls := .none, data := .fields #[] } := fun b hb => by
    obtain ⟨p, hp, e⟩ := List.mem_map.mp hb
    rw [← e]
    exact hT p hp
  have aT : a ∉ cs.map (·.2) := fun z => by
    have q := isT a z
    rw [ha] at q
    have z' : Data.seq vs.toArray _ = Data.fields #[] := congrArg Obj.data (Option.some.inj q)
    cases z'
  have memT : ∀ p ∈ cs, p.2 ∈ cs.map (·.2) := fun p hp => List.mem_map.mpr ⟨p, hp, rfl⟩
  have core : ∀ H : Hp, (∀ p ∈ cs, H p.2 = some (.tbl #[])) → (∀ b, H b = none ∨ b ∈ cs.map (·.2) ∨ ∃ o xs, H b = some (.frz o (.lst xs))) → Scr K H a ns → HOk P w H s₁.heap → (∀ b, H b ≠ none → b = a ∨ b ∈ cs.map (·.2)) → (H a ≠ none → K.lookup a = none) →
      codeAny (model P w) callerA (.call (.ref fa) ⟨[.ref a], []⟩) (fun r s' => r = .ok (.ret (.bool true)) ∧ OldK s₁.heap s'.heap ∧ s'.os = s₁.os ∧ AllBare s'.gens) s₁ := by
    intro H hH hO hS hok hA hK
    have base_of : ∀ {b : Addr} {o : Obj}, s₁.heap.get? b = some o → H b = none → (hidT s₁.heap H).get? b = some o := fun e n => hidT_get e n
    have noD : ∀ {b : Addr} {o : Obj}, s₁.heap.get? b = some o → (∀ vs n, o.data ≠ .seq vs n) → o.data ≠ .fields #[] → H b = none := fun {b o} e h1 h2 => by
      cases q : H b with
      | none => rfl
      | some u =>
        rcases hA b (by rw [q]; simp) with e' | e'
        · rw [e', ha] at e
          cases e
          exact (h1 _ _ rfl).elim
        · rw [isT b e'] at e
          cases e
          exact (h2 rfl).elim
    have noA : ∀ {b : Addr} {o : Obj} {es : Array DictEntry} {ep : Nat}, s₁.heap.get? b = some o → o.data = .dict es ep → H b = none := fun {b o es ep} e d => by
      refine noD e (fun vs n z => ?_) fun z => ?_
      · rw [d] at z
        cases z
      · rw [d] at z
        cases z
    have nsK : ∀ {b : Addr} {m : Str → Option Value}, s₁.heap.Ns b m → (hidT s₁.heap H).Ns b m := fun {b m} ⟨o, es, ep, e, d, r⟩ => ⟨o, es, ep, base_of e (noA e d), d, r⟩
    have hKb : K.In (hidT s₁.heap H) := fun b o e => base_of (KX b o e) (by
      cases q : H b with
      | none => rfl
      | some u =>
        rcases hA b (by rw [q]; simp) with e' | e'
        · rw [e'] at e q
          rw [hK (by rw [q]; simp)] at e
          cases e
        · obtain ⟨p, hp, ep⟩ := List.mem_map.mp e'
          rw [← ep, nT p hp] at e
          cases e)
    have hM : L2.Mod K mg (hidT s₁.heap H) := ⟨hKb, nsK hns, ⟨mb, nsK hb, hbb⟩, let ⟨mc, h1, h2⟩ := hlim; ⟨mc, nsK h1, h2⟩⟩
    have TB : ∀ p ∈ cs, LamX.TabB (hidT s₁.heap H) mg p.1 p.2 := fun p hp => by
      have hTp := hT p hp
      refine ⟨?_, ?_, fun z => ?_⟩
      · obtain ⟨o, us, file, tf, flags, tg, inF, text, tt, e1, r1, r2, r3, r4, r5, r6, r7, r8, hne⟩ := C p hp
        refine ⟨o, us, file, tf, flags, tg, inF, text, tt, base_of e1 (noD e1 (fun vs n z => ?_) fun z => ?_), r1, r2, r3, r4, r5, r6, r7, r8, hne⟩
        · rw [r2] at z
          cases z
        · rw [r2] at z
          cases z
          simp at r3
      · obtain ⟨bm, ob, b1, b2, b3, b4, b5, b6⟩ := hbm
        have nG : bm ≠ mainGlobals := fun q => by
          obtain ⟨o, es, ep, e, hd, _⟩ := hns
          rw [q, e] at b3
          cases b3
          rw [hd] at b6
          cases b6
        have nP : bm ≠ p.2 := fun q => by
          rw [q, hTp] at b3
          cases b3
          cases b6
        refine ⟨bm, ob, b1, b2, nG, nP, base_of b3 (noD b3 (fun vs n z => ?_) fun z => ?_), b4, b5, b6⟩
        · rw [b6] at z
          cases z
        · rw [b6] at z
          cases z
      · obtain ⟨o, es, ep, e, hd, _⟩ := hns
        rw [z, hTp] at e
        cases e
        cases hd
    have e0 : Env0 P w K mg (hidT s₁.heap H) callerA [] s₁ H := ⟨rfl, hM, fun b o e => of_hidT e, Nat.le_of_eq (hidT_size _ _), trivial, fun b hb => absurd (show b ∈ ([] : List Addr) from hb) (by simp), hok, .of_eq hg⟩
    refine codeAny_mono ((F _ hKb (nsK hns) TB).run callerA [] s₁ H ⟨[.ref a], []⟩ [.ref a] [.ref a] _ _ hr rfl e0 (hbind s₁ (.ref a)) (.cons rfl .nil) (hsp _ H hH hS)) fun r s' h => ?_
    cases r with
    | error e =>
      obtain ⟨_, _, _, _, _, _, _, _, _, _, _, _, z⟩ := h
      exact z.elim
    | ok fl =>
      cases fl with
      | next => exact False.elim h
      | brk => exact False.elim h
      | cont => exact False.elim h
      | ret u =>
        obtain ⟨v, H', os, bare, un, hok', r', q⟩ := h
        have q' : v = .bl true := q
        subst q'
        obtain rfl : u = Value.bool true := r'
        have key : ∀ b o, b ∉ cs.map (·.2) → s₁.heap.get? b = some o → s'.heap.get? b = some o := fun b o nb e => by
          cases q : H b with
          | none => exact un.keep b o e q (by intro z; exact absurd (show b ∈ ([] : List Addr) from z) (by simp)) (by simp)
          | some u =>
            rcases hO b with z | z | ⟨ob, xs, z⟩
            · rw [q] at z; cases z
            · exact absurd z nb
            · have z2 := un.frzs b ob _ z
              obtain ⟨e1, _⟩ := hok b _ z
              obtain ⟨e2, _⟩ := hok' b _ z2
              rw [e] at e1; cases e1
              exact e2
        have grown : ∀ p ∈ cs, ∃ more : Array Value, s'.heap.get? p.2 = some { cls := .none, data := .fields more } := fun p hp => by
          obtain ⟨more, z⟩ := un.tbls p.2 #[] (hH p hp)
          exact ⟨_, hok' p.2 _ z⟩
        refine ⟨rfl, ⟨fun b o e => ?_, fun b o e => ?_⟩, os, bare⟩
        · by_cases hb : b ∈ cs.map (·.2)
          · obtain ⟨p, hp, ep⟩ := List.mem_map.mp hb
            obtain ⟨more, hm⟩ := grown p hp
            rw [← ep] at e ⊢
            rw [hT p hp] at e
            cases e
            exact .inr (.inl ⟨((C p hp).tab (hT p hp)).isCodeTable, rfl, #[], more, rfl, by rw [Array.empty_append]; exact hm⟩)
          · exact .inl (key b o hb e)
        · by_cases hb : b ∈ cs.map (·.2)
          · obtain ⟨p, hp, ep⟩ := List.mem_map.mp hb
            obtain ⟨more, hm⟩ := grown p hp
            rw [← ep]
            exact ⟨_, hm⟩
          · exact ⟨o, key b o hb e⟩
  cases hk : K.lookup a with
  | some o =>
    have e := KX a o hk
    rw [ha] at e
    cases e
    refine core (fun b => if b ∈ cs.map (·.2) then some (.tbl #[]) else none) (fun p hp => if_pos (memT p hp)) (fun b => ?_) (.inr ⟨_, vs.toArray, _, hk, rfl, rfl, rfl, by rw [List.size_toArray, lenV]; exact hl, by simpa using rv⟩) (fun b u z => ?_) (fun b z => ?_) fun z => absurd (show (if a ∈ cs.map (·.2) then some (HO.tbl #[]) else none) = none from if_neg aT) z
    · by_cases hb : b ∈ cs.map (·.2)
      · exact .inr (.inl hb)
      · exact .inl (if_neg hb)
    · by_cases hb : b ∈ cs.map (·.2)
      · have z' := (if_pos hb).symm.trans z
        cases z'
        exact isT b hb
      · have z' := (if_neg hb).symm.trans z
        cases z'
    · by_cases hb : b ∈ cs.map (·.2)
      · exact .inr hb
      · exact absurd (if_neg hb) z
  | none =>
    refine core (fun b => if b = a then some (.frz { cls := .type "list", data := .seq vs.toArray } (.lst (ns.map V.int))) else if b ∈ cs.map (·.2) then some (.tbl #[]) else none) (fun p hp => (if_neg (show ¬ p.2 = a from fun z => aT (by rw [← z]; exact memT p hp))).trans (if_pos (memT p hp))) (fun b => ?_)
      (.inl ⟨{ cls := .type "list", data := .seq vs.toArray }, if_pos rfl⟩) (fun b u z => ?_) (fun b z => ?_) fun _ => hk
    · by_cases hb : b = a
      · exact .inr (.inr ⟨_, _, if_pos hb⟩)
      · by_cases hb2 : b ∈ cs.map (·.2)
        · exact .inr (.inl hb2)
        · exact .inl ((if_neg hb).trans (if_neg hb2))
    · by_cases hb : b = a
      · have z' := (if_pos hb).symm.trans z
        cases z'
        rw [hb]
        exact ⟨ha, by rw [List.length_map]; exact hl, vs, _, rv, ha⟩
      · have z1 := (if_neg hb).symm.trans z
        by_cases hb2 : b ∈ cs.map (·.2)
        · have z' := (if_pos hb2).symm.trans z1
          cases z'
          exact isT b hb2
        · have z' := (if_neg hb2).symm.trans z1
          cases z'
    · by_cases hb : b = a
      · exact .inl hb
      · by_cases hb2 : b ∈ cs.map (·.2)
        · exact .inr hb2
        · exact absurd ((if_neg hb).trans (if_neg hb2)) z
/-- what is known of the law's def at the head's heap h -/
def LawG (l : PySem.W.OpenLaw) (w : World) (k n : Nat) (x : Str) (mg : Str → Option Value) (fa : Addr) (h : Heap) : Prop :=
  ∃ (K : PySem.W.Frag) (T : List (Addr × Str)) (cs : List (Addr × Addr)) (fd : FuncData) (Fn : List SV → AH → R AV), K.In h ∧ (∀ p ∈ T, p.1 ∈ cs.map (·.2)) ∧
    (∀ p ∈ cs, h.get? p.2 = some { cls := .none, data := .fields #[] }) ∧ (∀ p ∈ cs, K.lookup p.2 = none) ∧ (∀ p ∈ cs, PySem.W.CodeHd h p.1 p.2) ∧ (∀ (s : Shared) (u : Value), BindsTo s fd ⟨[u], []⟩ [(x, u)]) ∧
    (∀ ns : List Int, ns.length ≤ n → (∀ z ∈ ns, Builtin.Int.intBits z ≤ 1048576) → ∃ M, Fn [.scr ns] [] = .ok (.bl true) M) ∧
    ∀ base : Heap, K.In base → base.Ns mainGlobals mg → (∀ p ∈ cs, LamX.TabB base mg p.1 p.2) → FnG ⟨K, mg, l.prog, w, base, T⟩ k fa fd [x] (spF ⟨K, mg, l.prog, w, base, T⟩ 1 Fn)
theorem am_end {l : PySem.W.OpenLaw} {n k : Nat} {q : Program} {loose : List Str} {XP : (Str → Option Value) → Heap → Prop} {YP : World → Heap → Prop} {d : DefRec} {x : Str}
    (hn : l.most = some n) (hn2 : n ≤ sizeLine) (hdf : d.params.defaults = []) (hr : Room k callerA)
    (F : ∀ (w : World) (mg : Str → Option Value) (fa : Addr) (h : Heap), YP w h → h.Ns mainGlobals mg → mg d.name = some (.ref fa) → LawG l w k n x mg fa h) :
    PySem.W.WalkO q loose XP YP l.row.toRowW d [] (fun f vs => PySem.call f vs) := by
  refine Att.attach_callB hn hdf fun w s₀ s₁ mg mb fa o pm cd doc a vs ns G Y ho hd hcd hmg hobj hints hlen hbits hg => ?_
  obtain ⟨K, T, cs, fd, Fn, KX, hTc, hT, nT, C, hb, hplain, hF⟩ := F w mg fa _ Y G.T.g hmg
  obtain ⟨M, e⟩ := hplain ns hlen hbits
  refine law_callG (T := T) (sp := fun base => spF ⟨K, mg, l.prog, w, base, T⟩ 1 Fn) KX G.T.g G.T.b G.T.builtins G.T.nolimit hg hT nT C G.T.bmain hobj hints (Nat.le_trans hlen hn2) hr hF hb fun base H hH hS => ?_
  refine ⟨rfl, [], [], [.scr ns], ⟨rfl, List.nodup_nil, fun i o a e => by simp at e, fun p hp => ?_⟩, .cons ⟨a, rfl, hS⟩ .nil, ?_⟩
  · obtain ⟨c, hc, ec⟩ := List.mem_map.mp (hTc p hp)
    refine ⟨#[], by rw [← ec]; exact hH c hc, True.intro, fun pos cv hcv => ?_⟩
    have z : codeAmong pos [] = some cv := hcv
    simp [codeAmong] at z
  · rw [e]
    exact fun ι' H' v h1 h2 h3 h4 => by rw [vr_bl] at h4; exact h4
end AM
end

section
set_option Elab.async false
set_option linter.all false
set_option autoImplicit false
set_option maxRecDepth 100000
set_option maxHeartbeats 4000000
/-! AM 22: the head's facts, with tables of code objects. -/
namespace AM
open PySem PySem.Spec PyProof.Rows L2 He

theorem frG_none {g : Addr → Option Obj} {a : Addr} : ∀ {as : List Addr}, a ∉ as → (frG g as).lookup a = none
  | [], _ => rfl
  | b :: r, h => by
    rw [List.mem_cons, not_or] at h
    unfold frG
    rw [List.filterMap_cons]
    cases hb : g b with
    | none => exact frG_none (g := g) h.2
    | some o =>
      show List.lookup a ((b, o) :: frG g r) = none
      rw [List.lookup_cons]
      have : (a == b) = false := by rw [beq_eq_false_iff_ne]; exact h.1
      rw [this]
      exact frG_none h.2
abbrev Path : Type := Str × Option Str
/-- a def's code object -/
def codeAd (K : PySem.W.Frag) (p : Path) : Addr := match K.lookup (fAd K p) with
  | some ⟨_, _, .func fd, _⟩ => (match fd.code with
    | .ref c => c
    | _ => 0)
  | _ => 0
def tabAd (g : Addr → Option Obj) (c : Addr) : Addr := match g c with
  | some ⟨_, _, .fields vs, _⟩ => (match (vs.getD 11 .none : Value) with
    | .ref P => P
    | _ => 0)
  | _ => 0
def strB : Value → Bool
  | .str _ _ => true
  | _ => false
def intB : Value → Bool
  | .int _ _ => true
  | _ => false
def bolB : Value → Bool
  | .bool _ => true
  | _ => false
theorem strB_ok {v : Value} (h : strB v = true) : ∃ x t, v = .str x t := by cases v <;> first | exact ⟨_, _, rfl⟩ | cases h
theorem intB_ok {v : Value} (h : intB v = true) : ∃ x t, v = .int x t := by cases v <;> first | exact ⟨_, _, rfl⟩ | cases h
theorem bolB_ok {v : Value} (h : bolB v = true) : ∃ x, v = .bool x := by cases v <;> first | exact ⟨_, rfl⟩ | cases h
def codeHdB (g : Addr → Option Obj) (c P : Addr) : Bool := match g c with
  | some ⟨.type T, _, .fields vs, _⟩ => decide (T = "code") && decide (vs[11]? = some (.ref P)) && strB (vs.getD 18 .none) && intB (vs.getD 7 .none) && bolB (vs.getD 9 .none) && intB (vs.getD 10 .none) && !decide (c = P)
  | _ => false
theorem codeHdB_ok {h : Heap} {c P : Addr} (e : codeHdB h.get? c P = true) : PySem.W.CodeHd h c P := by
  unfold codeHdB at e
  split at e
  · rename_i T dd vs sl ho
    simp only [Bool.and_eq_true, decide_eq_true_eq, Bool.not_eq_true', decide_eq_false_iff_not] at e
    obtain ⟨⟨⟨⟨⟨⟨rfl, h11⟩, h18⟩, h7⟩, h9⟩, h10⟩, hne⟩ := e
    obtain ⟨f, ft, e18⟩ := strB_ok h18
    obtain ⟨fl, flt, e7⟩ := intB_ok h7
    obtain ⟨b, e9⟩ := bolB_ok h9
    obtain ⟨t, tt, e10⟩ := intB_ok h10
    refine ⟨_, vs, f, ft, fl, flt, b, t, tt, ho, rfl, rfl, h11, ?_, e18, e7, e9, e10, hne⟩
    rw [Array.getD_eq_getD_getElem?, h11]; rfl
  · cases e
def emptyB (g : Addr → Option Obj) (P : Addr) : Bool := match g P with
  | some ⟨.none, .none, .fields vs, sl⟩ => decide (vs.size = 0) && decide (sl.size = 0)
  | _ => false
theorem emptyB_ok {h : Heap} {P : Addr} (e : emptyB h.get? P = true) : h.get? P = some { cls := .none, data := .fields #[] } := by
  unfold emptyB at e
  split at e
  · rename_i vs sl ho
    simp only [Bool.and_eq_true, decide_eq_true_eq] at e
    rw [ho]
    have e1 : vs = #[] := Array.eq_empty_of_size_eq_zero e.1
    have e2 : sl = #[] := Array.eq_empty_of_size_eq_zero e.2
    rw [e1, e2]
  · cases e
def codeIs (K : PySem.W.Frag) (p : Path) (c : Addr) : Bool := match K.lookup (fAd K p) with
  | some ⟨_, _, .func fd, _⟩ => (match fd.code with
    | .ref c' => decide (c' = c)
    | _ => false)
  | _ => false
theorem codeIs_ok {K : PySem.W.Frag} {p : Path} {c : Addr} (e : codeIs K p c = true) : ∀ {oc : Value} {od : Option Addr} {fd : FuncData} {sl : Array (Option Value)}, K.lookup (fAd K p) = some ⟨oc, od, .func fd, sl⟩ → fd.code = .ref c := by
  intro oc od fd sl ho
  unfold codeIs at e
  rw [ho] at e
  dsimp only at e
  split at e
  · rename_i c' h; rw [h, of_decide_eq_true e]
  · cases e
/-- what the head looks at -/
structure Ob where
  n : Nat
  fa : List Fa
  fn : List DefD
  bs : List (PySem.W.Frag → Bool)
  lams : List Path
def obCs (o : Ob) (g : Addr → Option Obj) : List (Addr × Addr) := o.lams.map fun p => (codeAd (frG g (asD g o.n)) p, tabAd g (codeAd (frG g (asD g o.n)) p))
def obK (o : Ob) (g : Addr → Option Obj) : PySem.W.Frag := frG g ((asD g o.n).filter fun a => !((obCs o g).map (·.2)).contains a)
def obX (o : Ob) (g : Addr → Option Obj) : AlD :=
  (o.fa.all (fun f => f.ok (obK o g)) && o.fn.all (fun d => d.ok (obK o g)) && o.bs.all (fun b => b (obK o g)) && (obCs o g).all (fun p => codeHdB g p.1 p.2 && emptyB g p.2) && decide ((obCs o g).map (·.2)).Nodup &&
    (o.lams.zip (obCs o g)).all (fun q => codeIs (obK o g) q.1 q.2.1), o.fn.map fun d => fnW (obK o g) d.at_)
/-- what is known -/
structure SaysX (o : Ob) (K : PySem.W.Frag) (cs : List (Addr × Addr)) (h : Heap) : Prop where
  kin : K.In h
  fd : SaysD o.fa o.fn K
  bs : ∀ b ∈ o.bs, b K = true
  tab : ∀ p ∈ cs, h.get? p.2 = some { cls := .none, data := .fields #[] }
  off : ∀ p ∈ cs, K.lookup p.2 = none
  code : ∀ p ∈ cs, PySem.W.CodeHd h p.1 p.2
  nd : (cs.map (·.2)).Nodup
  len : cs.length = o.lams.length
  is : ∀ (i : Nat) (p : Path) (c : Addr × Addr), o.lams[i]? = some p → cs[i]? = some c → codeIs K p c.1 = true
theorem saysX_of {o : Ob} {h : Heap} (e : obX o h.get? = valD o.fn) : SaysX o (obK o h.get?) (obCs o h.get?) h := by
  have e1 := congrArg (fun z : AlD => z.1) e
  have e2 := congrArg (fun z : AlD => z.2) e
  have e1 : (o.fa.all (fun f => f.ok (obK o h.get?)) && o.fn.all (fun d => d.ok (obK o h.get?)) && o.bs.all (fun b => b (obK o h.get?)) && (obCs o h.get?).all (fun p => codeHdB h.get? p.1 p.2 && emptyB h.get? p.2) && decide ((obCs o h.get?).map (·.2)).Nodup &&
    (o.lams.zip (obCs o h.get?)).all (fun q => codeIs (obK o h.get?) q.1 q.2.1)) = true := e1
  rw [Bool.and_eq_true, Bool.and_eq_true, Bool.and_eq_true, Bool.and_eq_true, Bool.and_eq_true] at e1
  obtain ⟨⟨⟨⟨⟨h1, h2⟩, h3⟩, h4⟩, h5⟩, h6⟩ := e1
  refine ⟨frG_in, ?_, List.all_eq_true.mp h3, fun p hp => ?_, fun p hp => ?_, fun p hp => ?_, of_decide_eq_true h5, by unfold obCs; simp, fun i p c hp hc => ?_⟩
  · show (_, _) = _
    unfold valD
    refine Prod.ext_iff.mpr ⟨?_, e2⟩
    show (_ && _) = true
    rw [Bool.and_eq_true]
    exact ⟨h1, h2⟩
  · exact emptyB_ok (Bool.and_eq_true_iff.mp (List.all_eq_true.mp h4 p hp)).2
  · refine frG_none fun hm => ?_
    have := (List.mem_filter.mp hm).2
    rw [Bool.not_eq_true', ← Bool.not_eq_true, List.contains_iff_mem] at this
    exact this (List.mem_map.mpr ⟨p, hp, rfl⟩)
  · exact codeHdB_ok (Bool.and_eq_true_iff.mp (List.all_eq_true.mp h4 p hp)).1
  · exact List.all_eq_true.mp h6 (p, c) (List.mem_of_getElem? (i := i) (by rw [List.getElem?_zip_eq_some]; exact ⟨hp, hc⟩))
def hookX (o : Ob) : PySem.W.Hook where
  α := AlD
  obs := fun s => obX o s.heap.get?
  val := fun _ => valD o.fn
  says := fun _ h => ∃ K cs, SaysX o K cs h
  of := fun _ _ e => ⟨_, _, saysX_of e⟩
  keeps := fun _ _ _ ⟨K, cs, x⟩ k => ⟨K, cs, x.kin.keeps k, x.fd, x.bs, fun p hp => k _ _ (x.tab p hp), x.off, fun p hp => (x.code p hp).keeps k, x.nd, x.len, x.is⟩
theorem obX_eq {o : Ob} {g : Addr → Option Obj} {s : Shared} (h : ∀ a, g a = s.heap.get? a) : obX o g = (hookX o).obs s := by
  have e : g = s.heap.get? := funext h
  rw [e] <;> rfl
/-- the tables' list: each lambda-bearing def's table, the lambdas' qualified name -/
def tabT (cs : List (Addr × Addr)) (qs : List Str) : List (Addr × Str) := (cs.map (·.2)).zip qs
theorem tabT_in {cs : List (Addr × Addr)} {qs : List Str} : ∀ p ∈ tabT cs qs, p.1 ∈ cs.map (·.2) := fun p hp => (List.of_mem_zip (show (p.1, p.2) ∈ (cs.map (·.2)).zip qs from hp)).1
/-- a lambda may be made here -/
theorem lm_ok [Tb] {X : Cx} {cs : List (Addr × Addr)} {qs : List Str} {c P : Addr} {i : Nat} (hT : Tb.T = tabT cs qs) (nd : (cs.map (·.2)).Nodup) (hc : cs[i]? = some (c, P)) (hq : qs[i]? = some (X.env.qual ++ "<lambda>")) (he : X.env.code = .ref c) (tb : LamX.TabB X.base X.mg c P) : LmOk X := by
  refine ⟨c, P, he, tb, ?_, fun p hp e => ?_⟩
  · rw [hT]
    refine List.mem_of_getElem? (i := i) ?_
    unfold tabT
    rw [List.getElem?_zip_eq_some, List.getElem?_map, hc]
    exact ⟨rfl, hq⟩
  · rw [hT] at hp
    obtain ⟨j, hj⟩ := List.getElem?_of_mem hp
    unfold tabT at hj
    rw [List.getElem?_zip_eq_some] at hj
    have hi : (cs.map (·.2))[i]? = some P := by rw [List.getElem?_map, hc]; rfl
    rw [e] at hj
    obtain ⟨h1, e1⟩ := List.getElem?_eq_some_iff.mp hj.1
    obtain ⟨h2, e2⟩ := List.getElem?_eq_some_iff.mp hi
    have : j = i := (List.getElem_inj nd).mp (e1.trans e2.symm)
    subst this
    rw [hq] at hj
    exact (Option.some.inj hj.2).symm
end AM
end

section
set_option Elab.async false
set_option linter.all false
set_option autoImplicit false
set_option maxRecDepth 100000
set_option maxHeartbeats 4000000
/-! AM 23: what the generator's texts name: defs that are known, methods of the built-in types. -/
namespace AM
open PySem PySem.Spec PyProof.Rows L2
section
variable {κ : Cfg} {k n : Nat} {x y qual : Str} {f : Addr} {fd : FuncData} {ps : List Str} {params : Arguments} {body : List Stmt} {scope : Scope} {kws : List (Str × V)}
theorem kn_of {F : List SV → AH → R AV} (g : κ.mg x = some (.ref f)) (D : FunD κ.K y qual params body scope [] kws f fd)
    (hb : ∀ (kV doc pm : Value) (an : Option Addr) (cdv ct : Value) (us : List Value), us.length = ps.length → bindArgs (PySem.W.fnOf y qual params body scope .none kV doc pm an cdv ct) ⟨us, []⟩ = pure (ps.zip us))
    (h : FnG κ k f fd ps (spF κ n F)) : Kn κ k x n F := ⟨f, fd, ps, g, D.kp, h, D.bindsN hb⟩
theorem kn_bad {F : List SV → AH → R AV} (g : κ.mg x = some (.ref f)) (D : FunD κ.K y qual params body scope [] kws f fd)
    (hb : ∀ (kV doc pm : Value) (an : Option Addr) (cdv ct : Value) (us : List Value), us.length = ps.length → bindArgs (PySem.W.fnOf y qual params body scope .none kV doc pm an cdv ct) ⟨us, []⟩ = pure (ps.zip us))
    (hF : F = fun _ _ => .bad := by rfl) : Kn κ k x ps.length F := by
  subst hF
  exact ⟨f, fd, ps, g, D.kp, ⟨fun vs H Q E h => h.1, fun A outer s H args us vs Q E _ _ _ _ _ ⟨_, _, _, _, _, _, o⟩ => o.elim⟩, D.bindsN hb⟩
end
/-- a method of one built-in type alone -/
def onT (T : String) (op : AV → List AV → AH → R AV) : MFun := fun k => if k = T then some op else none
section
variable [Tb] {X : Cx} {W : WX}
theorem mf_on {name : Str} {T id : String} {op : AV → List AV → AH → R AV} (hT : T = "str" ∨ T = "list" ∨ T = "dict") (pa : PlainAttrs T) (sl : Slot T name id) (ty : typeOf (.builtin id) = pure (.type "method_descriptor")) (hm : MtR X id (rdM (kf X) W op)) : MFact X W name (onT T op) := by
  intro T' op' h
  unfold onT at h
  split at h
  · rename_i e
    subst e
    cases h
    exact ⟨hT, id, pa, sl, ty, hm⟩
  · cases h
theorem mf_append : MFact X W "append" (onT "list" mAppend) := mf_on (.inr (.inl rfl)) PySem.F.plainAttrs_list PySem.F.slot_list_append PySem.F.type_list_append mt_app
theorem mf_extend : MFact X W "extend" (onT "list" mExtend) := mf_on (.inr (.inl rfl)) PySem.F.plainAttrs_list PySem.F.slot_list_extend PySem.F.type_list_extend mt_ext
theorem mf_pop0 : MFact X W "pop" (onT "list" mPop0) := mf_on (.inr (.inl rfl)) PySem.F.plainAttrs_list PySem.F.slot_list_pop PySem.F.type_list_pop mt_pop0
theorem mf_pop1 : MFact X W "pop" (onT "list" mPop1) := mf_on (.inr (.inl rfl)) PySem.F.plainAttrs_list PySem.F.slot_list_pop PySem.F.type_list_pop mt_pop1
theorem mf_clear : MFact X W "clear" (onT "list" mClear) := mf_on (.inr (.inl rfl)) PySem.F.plainAttrs_list PySem.F.slot_list_clear PySem.F.type_list_clear mt_clr
theorem mf_get (hu : X.A.units + 64 < cLine) : MFact X W "get" (onT "dict" mGet) := mf_on (.inr (.inr rfl)) PySem.F.plainAttrs_dict PySem.F.slot_dict_get PySem.F.type_dict_get (mt_dget hu)
end
/-- the i-th statement of a class's body -/
def clsAt (s : Stmt) (i : Nat) : Stmt := match s with
  | .ClassDef _ _ _ body _ _ _ _ _ _ _ => body.getD i (.Pass ⟨0, 0, 0, 0⟩)
  | _ => .Pass ⟨0, 0, 0, 0⟩
section
variable [Tb] {X : Cx} {W : WX} {k : Nat}
theorem Be.u64 (B : Be X W k) : X.A.units + 64 < cLine := by have := B.room.un; omega
theorem Be.u65 (B : Be X W k) : X.A.units + 65 < cLine := by have := B.room.un; omega
theorem Be.blk (B : Be X W k) {s : Shared} {H : Hp} {scope : Scope} {cenv : Env} {fp : List Addr} : Be (X.blk s H scope cenv fp) WF k :=
  ⟨B.calm, B.nd, fun u s' ⟨_, _, _, _, _, _, _, _, _, _, _, _, _, _, _, _, h⟩ => False.elim h, B.room, B.gd⟩
theorem ExCls.mono {κ : Cfg} {j k : Nat} {x f : Str} (h : ExCls κ j x f) (hk : j ≤ k) : ExCls κ k x f := by
  obtain ⟨C, fI, fd, ps, h1, h2, h3, h4, h5, h6⟩ := h.ex
  exact ⟨C, fI, fd, ps, h1, h2, h3, h4, h5.mono hk, h6⟩
end
theorem vals_get : ∀ {xs : List V} {us : List Value} (i : Nat), Vals xs us → (xs[i]? = none ∧ us[i]? = none) ∨ ∃ v u, xs[i]? = some v ∧ us[i]? = some u ∧ RelV v u
  | _, _, _, .nil => .inl ⟨rfl, rfl⟩
  | _, _, 0, .cons r _ => .inr ⟨_, _, rfl, rfl, r⟩
  | _, _, i + 1, .cons _ t => by
    simp only [List.getElem?_cons_succ]
    exact vals_get i t
theorem vals_perm {xs : List V} {us : List Value} (h : Vals xs us) : ∀ perm : List Nat, Vals (permL perm xs) (permL perm us)
  | [] => .nil
  | i :: r => by
    have ih := vals_perm h r
    unfold permL at ih ⊢
    rcases vals_get i h with ⟨e1, e2⟩ | ⟨v, u, e1, e2, rr⟩
    · rw [List.filterMap_cons, List.filterMap_cons, e1, e2]
      exact ih
    · rw [List.filterMap_cons, List.filterMap_cons, e1, e2]
      exact .cons rr ih
theorem vals_appB : ∀ {xs : List V} {us : List Value} {ys : List V} {vs : List Value}, Vals xs us → Vals ys vs → Vals (xs ++ ys) (us ++ vs)
  | _, _, _, _, .nil, h => h
  | _, _, _, _, .cons r t, h => .cons r (vals_appB t h)
theorem knw_of {κ : Cfg} {k n j : Nat} {x y qual : Str} {f : Addr} {fd : FuncData} {ps ks : List Str} {perm : List Nat} {params : Arguments} {body : List Stmt} {scope : Scope} {kws : List (Str × V)} {F : List SV → AH → R AV} (g : κ.mg x = some (.ref f)) (D : FunD κ.K y qual params body scope [] kws f fd)
    (hb : ∀ (kV doc pm : Value) (an : Option Addr) (cdv ct : Value) (us vs : List Value), us.length = j → vs.length = ks.length → bindArgs (PySem.W.fnOf y qual params body scope .none kV doc pm an cdv ct) ⟨us, ks.zip vs⟩ = pure (ps.zip (permL perm (us ++ vs))))
    (h : FnG κ k f fd ps (spF κ n F)) : KnW κ k x n F j ks perm := by
  refine ⟨f, fd, ps, g, D.kp, h, ⟨?_, fun a b => vals_perm (vals_appB a b) perm⟩⟩
  obtain ⟨oc, od, dV, kV, doc, pm, an, cdv, ct, osl, rfl, lk, hcd, hD, hK⟩ := D.ex
  rcases hD with ⟨_, rfl⟩ | ⟨e, _⟩
  · exact fun s us ws _ h1 h2 => .of_eq (hb kV doc pm an cdv ct us ws h1 h2)
  · exact absurd rfl e
theorem KnW.mono {κ : Cfg} {i k n j : Nat} {x : Str} {F : List SV → AH → R AV} {ks : List Str} {perm : List Nat} (h : KnW κ i x n F j ks perm) (hk : i ≤ k) : KnW κ k x n F j ks perm := by
  obtain ⟨f, fd, ps, h1, h2, h3, h4⟩ := h.ex
  exact ⟨f, fd, ps, h1, h2, h3.mono hk, h4⟩
theorem KnEq.mono {κ : Cfg} {i k : Nat} {c : Str} {F : List SV → AH → R AV} (h : KnEq κ i c F) (hk : i ≤ k) : KnEq κ k c F :=
  ⟨fun C e => by
    obtain ⟨f, fd, ps, h1, h2, h3, h4⟩ := h.ex C e
    exact ⟨f, fd, ps, h1, h2, h3.mono hk, h4⟩⟩
end AM
end

section
set_option Elab.async false
set_option linter.all false
set_option autoImplicit false
set_option maxRecDepth 100000
set_option maxHeartbeats 4000000
/-! AM 24: the head's checks and what they tell. -/
namespace AM
open PySem PySem.Spec PyProof.Rows L2 He

def oexB (K : PySem.W.Frag) (C : Addr) : Bool := (match K.lookup C with
  | some ⟨.type "type", _, .cls cd, sl⟩ => (match cd.mro, sl.toList with
    | .ref C' :: bm, [_, _, _, _, some (.builtin n), _] => C' == C && n == "ValueError.__new__" && !cd.hasDel && cd.hasDict && PySem.HandSPX.refsVE bm
    | _, _ => false)
  | _ => false) && (eqO (PySem.W.findIn K (.ref C) "__setattr__") (some (some (.builtin "object.__setattr__"))) && (decide (PySem.W.subIn K (.ref C) (.type "BaseException") = some true) && (decide (PySem.W.typeIn K (.ref C) = some (.type "type")) && PySem.W.keepIn K (.ref C))))
theorem oexB_ok {K : PySem.W.Frag} {C : Addr} (q : oexB K C = true) : OexC K C := by
  unfold oexB at q
  obtain ⟨q, q2⟩ := ba q
  obtain ⟨q3, q2⟩ := ba q2
  obtain ⟨q4, q2⟩ := ba q2
  obtain ⟨q5, q6⟩ := ba q2
  refine ⟨?_, eqO_ok q3, of_decide_eq_true q4, of_decide_eq_true q5, q6⟩
  split at q
  · rename_i dd cd sl ho
    split at q
    · rename_i C' bm k0 k1 k2 k3 n k5 hm hs
      simp only [Bool.and_eq_true, beq_iff_eq, Bool.not_eq_true'] at q
      obtain ⟨⟨⟨⟨rfl, rfl⟩, hdel⟩, hd⟩, ht⟩ := q
      obtain ⟨nm, bs, mro, ns, qn, hdd, sn, sub, ab, col, del⟩ := cd
      dsimp only at hm hdel hd
      subst hm hdel hd
      have hsl : sl = #[k0, k1, k2, k3, some (.builtin "ValueError.__new__"), k5] := by
        obtain ⟨l⟩ := sl
        simp only at hs
        rw [hs]
      subst hsl
      exact ⟨_, _, _, _, _, _, _, _, _, _, _, _, _, _, _, ho, ht⟩
    · cases q
  · cases q
/-- an exception's own class x, whose __init__ stores the field f -/
def xoB (x f : Str) (K : PySem.W.Frag) : Bool := oexB K (ga K x) && (eqO (PySem.W.findIn K (.ref (ga K x)) "__init__") (some (some (.ref (ma K (ga K x) "__init__")))) && (decide (PySem.W.typeIn K (.ref (ma K (ga K x) "__init__")) = some (.type "function")) && eqO (PySem.W.findIn K (.ref (ga K x)) f) (some none)))
theorem xoB_ok {x f : Str} {K : PySem.W.Frag} (h : xoB x f K = true) : OexC K (ga K x) ∧ PySem.W.findIn K (.ref (ga K x)) "__init__" = some (some (.ref (ma K (ga K x) "__init__"))) ∧ PySem.W.typeIn K (.ref (ma K (ga K x) "__init__")) = some (.type "function") ∧ PySem.W.findIn K (.ref (ga K x)) f = some none := by
  obtain ⟨h1, h⟩ := ba h
  obtain ⟨h2, h⟩ := ba h
  obtain ⟨h3, h4⟩ := ba h
  exact ⟨oexB_ok h1, eqO_ok h2, of_decide_eq_true h3, eqO_ok h4⟩
/-- an exception's field is read -/
def xfB (x f : Str) (K : PySem.W.Frag) : Bool := eqO (PySem.W.findIn K (.ref (ga K x)) "__getattribute__") (some (some (.builtin "BaseException.__getattribute__"))) && ((PySem.W.findIn K (.ref (ga K x)) "__getattr__").isSome && (decide (PySem.W.subIn K (.ref (ga K x)) (.type "BaseException") = some true) && (PySem.W.hasDictIn K (ga K x) && eqO (PySem.W.findIn K (.ref (ga K x)) f) (some none))))
theorem xfB_ok {x f : Str} {κ : Cfg} (h : xfB x f κ.K = true) (g : κ.mg x = some (.ref (ga κ.K x))) : ExFld κ x f := by
  refine ⟨fun C e => ?_⟩
  have e2 : Value.ref C = .ref (ga κ.K x) := Option.some.inj (e.symm.trans g)
  cases e2
  obtain ⟨h1, h⟩ := ba h
  obtain ⟨h2, h⟩ := ba h
  obtain ⟨h3, h⟩ := ba h
  obtain ⟨h4, h5⟩ := ba h
  exact ⟨eqO_ok h1, Option.isSome_iff_exists.mp h2, of_decide_eq_true h3, h4, eqO_ok h5⟩
/-- isinstance asks for the own class x -/
def isB (x : Str) (K : PySem.W.Frag) : Bool := (Fa.cls x).ok K && (eqO (PySem.W.findIn K (.ref (ga K x)) "__class__") (some (some (.builtin "object.__class__"))) && (eqO (PySem.W.specialIn K (.builtin "object.__class__") "__get__") (some (some (.builtin "getset_descriptor.__get__"))) &&
  (decide (PySem.W.takesIn K (.builtin "object.__class__") = some true) && (decide (PySem.W.mroIn K (ga K x) (.type "object") = some true) && (biL.all (fun b => decide (PySem.W.kitOne K (.ref (ga K x)) (.type b) = some false)) &&
  ["NoneType", "bool", "int", "str", "tuple", "list", "dict", "function"].all (fun a => decide (PySem.W.kitOne K (.type a) (.ref (ga K x)) = some false)))))))
theorem isB_ok {ws : List Str} {κ : Cfg} (h : ∀ x ∈ ws, isB x κ.K = true ∧ κ.mg x = some (.ref (ga κ.K x))) : IsF κ ws := by
  refine ⟨fun x C hx e => ?_⟩
  obtain ⟨h, g⟩ := h x hx
  have e2 : Value.ref C = .ref (ga κ.K x) := Option.some.inj (e.symm.trans g)
  cases e2
  obtain ⟨h1, h⟩ := ba h
  obtain ⟨h2, h⟩ := ba h
  obtain ⟨h3, h⟩ := ba h
  obtain ⟨h4, h⟩ := ba h
  obtain ⟨h5, h⟩ := ba h
  obtain ⟨h6, h7⟩ := ba h
  exact ⟨cls_ok h1, eqO_ok h2, eqO_ok h3, of_decide_eq_true h4, of_decide_eq_true h5, fun b hb => of_decide_eq_true (List.all_eq_true.mp h6 b hb), fun a ha => of_decide_eq_true (List.all_eq_true.mp h7 a ha)⟩
/-- a global that is a function -/
def gfB (x : Str) (K : PySem.W.Frag) : Bool := match K.lookup (ga K x) with
  | some o => decide (o.cls = .type "function")
  | _ => false
theorem gfB_ok {fns : List Str} {κ : Cfg} (h : ∀ x ∈ fns, gfB x κ.K = true ∧ κ.mg x = some (.ref (ga κ.K x))) : GloFn κ fns := by
  refine ⟨fun x f hx e => ?_⟩
  obtain ⟨h, g⟩ := h x hx
  have e2 : Value.ref f = .ref (ga κ.K x) := Option.some.inj (e.symm.trans g)
  cases e2
  unfold gfB at h
  split at h
  · rename_i o ho
    exact ⟨o, ho, of_decide_eq_true h⟩
  · cases h
theorem clsFld_ok {x f : Str} {κ : Cfg} (h1 : (Fa.cls x).ok κ.K = true) (h2 : (Fa.noat x f).ok κ.K = true) (g : κ.mg x = some (.ref (ga κ.K x))) : ClsFld κ x f := by
  refine ⟨fun C e => ?_⟩
  have e2 : Value.ref C = .ref (ga κ.K x) := Option.some.inj (e.symm.trans g)
  cases e2
  exact ⟨cls_ok h1, noat_ok h2⟩
/-- which class a clause takes, by a table -/
def emT : List (Str × Str × Bool) → Str → Str → Option Bool
  | [], _, _ => none
  | (c', x', b) :: r, c, x => if c = c' ∧ x = x' then some b else emT r c x
theorem emT_in : ∀ {l : List (Str × Str × Bool)} {c x : Str} {b : Bool}, emT l c x = some b → (c, x, b) ∈ l
  | [], _, _, _, e => by cases e
  | (c', x', b') :: r, c, x, b, e => by
    unfold emT at e
    split at e
    · rename_i h
      obtain ⟨rfl, rfl⟩ := h
      cases e
      exact List.mem_cons_self
    · exact List.mem_cons_of_mem _ (emT_in e)
theorem em_ok {l : List (Str × Str × Bool)} {κ : Cfg} (h : ∀ c x b, (c, x, b) ∈ l → (Fa.exm c x b).ok κ.K = true ∧ κ.mg c = some (.ref (ga κ.K c)) ∧ κ.mg x = some (.ref (ga κ.K x))) : EmOk κ (emT l) := by
  intro c x b C D e m1 m2
  obtain ⟨h1, g1, g2⟩ := h c x b (emT_in e)
  have e1 : Value.ref C = .ref (ga κ.K c) := Option.some.inj (m1.symm.trans g1)
  have e2 : Value.ref D = .ref (ga κ.K x) := Option.some.inj (m2.symm.trans g2)
  cases e1
  cases e2
  exact exm_ok h1
end AM
end

section
set_option Elab.async false
set_option linter.all false
set_option autoImplicit false
/-! AM 25: more for the printed texts. -/
namespace AM
open PySem PySem.Spec L2
theorem KnI.mono {κ : Cfg} {i k n : Nat} {c : Str} {F : List SV → AH → R AV} (h : KnI κ i c n F) (hk : i ≤ k) : KnI κ k c n F := by
  obtain ⟨C, f, fd, ps, h1, h2, h3, h4⟩ := h.ex
  exact ⟨C, f, fd, ps, h1, h2, h3.mono hk, h4⟩
end AM
end

section
set_option Elab.async false
set_option linter.all false
set_option autoImplicit false
set_option maxRecDepth 100000
set_option maxHeartbeats 4000000
/-! AM 26: methods of own classes; closures without arguments; instances made by keywords. -/
namespace AM
open PySem PySem.Spec PyProof.Rows L2

/-! ### methods -/
/-- an instance of c without a field m -/
def insHas (c m : Str) (a : AV) (M : AH) : Bool := match a with
  | .ref i => match M[i]? with
    | some (.ins c' fs) => decide (c' = c) && (fs.lookup m).isNone
    | _ => false
  | _ => false
def methO (c m : Str) (n : Nat) (F : List SV → AH → R AV) (co : CE) (r : CA) : CE := fun vs M => (co vs M).bind fun a M1 => if insHas c m a M1 = true then (r vs M1).bind fun as M2 => if (a :: as).length = n then F ((a :: as).map .val) M2 else .bad else .bad
structure KnM (κ : Cfg) (k : Nat) (c m : Str) (n : Nat) (F : List SV → AH → R AV) : Prop where
  ex : ∃ (C f : Addr) (fd : FuncData) (ps : List Str), κ.mg c = some (.ref C) ∧ Cls κ.K C ∧ Meth κ.K C m f ∧ FnG κ k f fd ps (spF κ n F) ∧ Binds κ.K fd ps []
theorem KnM.mono {κ : Cfg} {i k n : Nat} {c m : Str} {F : List SV → AH → R AV} (h : KnM κ i c m n F) (hk : i ≤ k) : KnM κ k c m n F := by
  obtain ⟨C, f, fd, ps, h1, h2, h3, h4, h5⟩ := h.ex
  exact ⟨C, f, fd, ps, h1, h2, h3, h4.mono hk, h5⟩
theorem lookup_none {α β : Type} : ∀ {fs : List (Str × α)} {gs : List (Str × β)} {m : Str}, fs.map (·.1) = gs.map (·.1) → fs.lookup m = none → gs.lookup m = none
  | [], [], _, _, _ => rfl
  | [], _ :: _, _, e, _ => by cases e
  | _ :: _, [], _, e, _ => by cases e
  | (f, a) :: fs, (g, b) :: gs, m, e, h => by
    simp only [List.map_cons, List.cons.injEq] at e
    obtain ⟨rfl, e⟩ := e
    simp only [List.lookup_cons] at h ⊢
    split at h
    · cases h
    · rename_i q
      exact lookup_none e h
section
variable [Tb] {X : Cx} {W : WX} {o e : Expr} {es : List Expr} {apos pos : Pos} {co : CE} {r : CA} {c m : Str} {k n : Nat} {F : List SV → AH → R AV}
theorem ins_at {ι : List Addr} {vs : Loc} {M : AH} {σ : L2.St} {H : Hp} {a : AV} {x : V} (hr : Rel (kf X) ι vs M σ H) (ha : VR (kf X) ι H a x) (h : insHas c m a M = true) : ∃ (p C dx : Addr) (gs : List (Str × V)), x = .ref p ∧ X.mg c = some (.ref C) ∧ H p = some (.ins C dx gs) ∧ gs.lookup m = none := by
  unfold insHas at h
  split at h
  case h_2 => cases h
  rename_i i
  split at h
  case h_2 => cases h
  rename_i c' fs em
  simp only [Bool.and_eq_true, decide_eq_true_eq, Option.isNone_iff_eq_none] at h
  obtain ⟨rfl, h2⟩ := h
  rw [vr_ref] at ha
  obtain ⟨p, ei, rfl⟩ := ha
  obtain ⟨C, dx, gs, k0, k1, k2⟩ := hr.rep.at_ em ei
  exact ⟨p, C, dx, gs, rfl, k0, k1, lookup_none k2.1 h2⟩
theorem ev_methO0 {pl : Sem Bool} (B : Be X W k) (hk : KnM (kf X) k c m n F) (ho : EvE X W o co)
    (ht : eval (.Call (.Attribute o m apos) [] [] pos) X.env = (do
      let ov ← eval o X.env
      standAt apos.atName
      let (f, first) ← holding [ov] (getMethod ov m pl)
      callWith pos f first (backTo pos (starEach [] X.env)) (backToKw pos (keywordEach [] X.env))) := by rfl) :
    EvE X W (.Call (.Attribute o m apos) [] [] pos) (methO c m n F co nilA) := by
  obtain ⟨C, f, fd, ps, h1, h2, h3, h4, h5⟩ := hk.ex
  refine ⟨fun pins s σ H Q I ⟨ι, vs, M, hr, oo⟩ => ?_⟩
  refine PySem.W.methodCall_KW (pl := pl) (thn (ho.run pins s σ H _ I (Out.run (Q1 := fun x H1 => ∃ (p dx : Addr) (gs : List (Str × V)), x = .ref p ∧ H1 p = some (.ins C dx gs) ∧ gs.lookup m = none ∧ spF (kf X) n F [x] H1 Q (WE W σ)) hr oo fun ι1 a M1 v H1 g1 g2 g3 g4 g5 => ?_)) fun v s1 ⟨x, H1, I1, rx, p, dx, gs, ex, ea, l, q⟩ => ?_) ht
  · split at g5
    case isFalse => exact g5.elim
    rename_i hi
    obtain ⟨p, C', dx, gs, e1, e2, e3, e4⟩ := ins_at g3 g4 hi
    cases (show some (Value.ref C) = some (.ref C') from (show X.mg c = _ from h1).symm.trans e2)
    have g5 : Out (kf X) W (VR (kf X)) ι1 vs σ H1 Q (if [a].length = n then F ([a].map .val) M1 else .bad) := g5
    exact ⟨p, dx, gs, e1, e3, e4, call_goal g3 (.cons g4 .nil) g5⟩
  · subst ex
    obtain rfl : v = Value.ref p := rx
    refine getmeth_ok I1 ea h2 h3 l ?_
    exact PySem.W.callWith_K0 (first := [.ref p]) I1.kIn h3.kp (run_fnG (us := [.ref p]) (vs := [.ref p]) B h4 h5 I1 (.cons rfl .nil) q)
theorem ev_methO {pl : Sem Bool} (B : Be X W k) (hk : KnM (kf X) k c m n F) (ho : EvE X W o co) (ha : EvA X W (e :: es) r)
    (hst : starEach (e :: es) X.env = (false, eval e X.env) :: starEach es X.env := by rfl) (hpl : (backTo pos (starEach es X.env)).any (·.1) = false := by rfl)
    (ht : eval (.Call (.Attribute o m apos) (e :: es) [] pos) X.env = (do
      let ov ← eval o X.env
      standAt apos.atName
      let (f, first) ← holding [ov] (getMethod ov m pl)
      callWith pos f first (backTo pos (starEach (e :: es) X.env)) (backToKw pos (keywordEach [] X.env))) := by rfl) :
    EvE X W (.Call (.Attribute o m apos) (e :: es) [] pos) (methO c m n F co r) := by
  obtain ⟨C, f, fd, ps, h1, h2, h3, h4, h5⟩ := hk.ex
  refine ⟨fun pins s σ H Q I ⟨ι, vs, M, hr, oo⟩ => ?_⟩
  refine PySem.W.methodCall_KW (pl := pl) (thn (ho.run pins s σ H _ I (Out.run (Q1 := fun x H1 => ∃ (p dx : Addr) (gs : List (Str × V)), x = .ref p ∧ H1 p = some (.ins C dx gs) ∧ gs.lookup m = none ∧ rdA (kf X) W r σ H1 fun ws H2 => spF (kf X) n F (x :: ws) H2 Q (WE W σ)) hr oo fun ι1 a M1 v H1 g1 g2 g3 g4 g5 => ?_)) fun v s1 ⟨x, H1, I1, rx, p, dx, gs, ex, ea, l, q⟩ => ?_) ht
  · split at g5
    case isFalse => exact g5.elim
    rename_i hi
    obtain ⟨p, C', dx, gs, e1, e2, e3, e4⟩ := ins_at g3 g4 hi
    cases (show some (Value.ref C) = some (.ref C') from (show X.mg c = _ from h1).symm.trans e2)
    exact ⟨p, dx, gs, e1, e3, e4, Out.run g3 g5 fun ι2 as M2 ws H2 k1 k2 k3 k4 k5 => call_goal k3 (.cons (g4.mono k1 k2) k4) k5⟩
  · subst ex
    obtain rfl : v = Value.ref p := rx
    refine getmeth_ok I1 ea h2 h3 l ?_
    refine PySem.W.callWith_K (first := [.ref p]) (h₀ := X.base) I.ok.mod.kin h3.kp (thn (ha.run pos pins s1 σ H1 _ I1 q) fun us s2 ⟨ws, H2, I2, r2, q2⟩ => ⟨I2.kIn, ?_⟩) hst hpl
    exact run_fnG (us := .ref p :: us) (vs := .ref p :: ws) B h4 h5 I2 (.cons rfl r2) q2
/-! ### closures without arguments -/
theorem ev_clo0 {x : Str} {p : Pos} (i : Nat) (B : Be X W k) (hN : X.N[i]? = some x := by rfl) (hv : Vis X.env.scope x := by first | exact Or.inl rfl | exact Or.inr (Or.inl rfl) | exact Or.inr (Or.inr rfl)) (hd : (x == ("__debug__" : Str)) = false := by decide +kernel)
    (hcd : (x == ("__classdict__" : Str)) = false := by decide +kernel) : EvE X W (.Call (.Name x p) [] [] pos) (cloC k i nilA) := by
  refine ⟨fun pins s σ H Q I ⟨ι, vs, M, hr, o⟩ => ?_⟩
  unfold cloC at o
  split at o
  case h_2 => exact o.elim
  rename_i kk F ev
  split at o
  case isFalse => exact o.elim
  rename_i hle
  have o : Out (kf X) W (VR (kf X)) ι vs σ H Q (F [] M) := o
  obtain ⟨v, e1, f, rfl, cat, cok⟩ := hr.sl.at_ i _ ev
  refine wpAny_Call_Name_kw (thn ((pe_var (pos := p) (i := i) hN hv hd hcd).run pins s σ H (fun v H1 => v = .ref f ∧ H1 = H) I ⟨.ref f, e1, rfl, rfl⟩) fun u s1 ⟨v, H1, I1, rv, ev1, eH⟩ => ?_)
  subst ev1 eH
  obtain rfl : u = Value.ref f := rv
  refine PySem.W.callWith_F0 (clo_at I1 cat) ?_
  refine wpAny_call (codeAny_mono (cok X.A X.stack s1 H1 ι M [] [] [] Q (WE W σ) (B.room.mono hle) B.gd I1.env0 (List.prefix_refl _) (Keep.refl _) hr.rep .nil .nil (OutF.ofOut hr.sl (fun _ _ _ => Iff.rfl) o)) fun rr s' hq => ?_)
  cases rr with
  | error e => exact passAt B.tk σ pins H1 s1 e s' I1 hq
  | ok fl =>
    cases fl with
    | ret u => exact I1.after hq
    | next => exact False.elim hq
    | brk => exact False.elim hq
    | cont => exact False.elim hq
end
end AM
end

section
set_option Elab.async false
set_option linter.all false
set_option autoImplicit false
set_option maxRecDepth 100000
set_option maxHeartbeats 4000000
/-! AM 27: instances made by keywords alone. -/
namespace AM
open PySem PySem.Spec PyProof.Rows L2
def makeKA (c : Str) (n : Nat) (F : List SV → AH → R AV) (m : Nat) (perm : List Nat) (bs : List AV) (M : AH) : R AV :=
  if bs.length = m ∧ (permL perm (.ref M.length :: bs)).length = n then madeR M.length (F ((permL perm (.ref M.length :: bs)).map .val) (M ++ [.ins c []])) else .bad
def makeK (c : Str) (n : Nat) (F : List SV → AH → R AV) (m : Nat) (perm : List Nat) (rk : CA) : CE := fun vs M => (rk vs M).bind (makeKA c n F m perm)
structure KnIW (κ : Cfg) (k : Nat) (c : Str) (n : Nat) (F : List SV → AH → R AV) (ks : List Str) (perm : List Nat) : Prop where
  ex : ∃ (C f : Addr) (fd : FuncData) (ps : List Str), κ.mg c = some (.ref C) ∧ Mk κ.K C f ∧ FnG κ k f fd ps (spF κ n F) ∧ KBn κ.K fd ps 1 ks (fun us ws => permL perm (us ++ ws)) (fun us ws => permL perm (us ++ ws))
theorem KnIW.mono {κ : Cfg} {i k n : Nat} {c : Str} {F : List SV → AH → R AV} {ks : List Str} {perm : List Nat} (h : KnIW κ i c n F ks perm) (hk : i ≤ k) : KnIW κ k c n F ks perm := by
  obtain ⟨C, f, fd, ps, h1, h2, h3, h4⟩ := h.ex
  exact ⟨C, f, fd, ps, h1, h2, h3.mono hk, h4⟩
theorem kniw_of {κ : Cfg} {k n : Nat} {c y qual : Str} {C f : Addr} {fd : FuncData} {ps ks : List Str} {perm : List Nat} {params : Arguments} {body : List Stmt} {scope : Scope} {kws : List (Str × V)} {F : List SV → AH → R AV} (g : κ.mg c = some (.ref C)) (m : Mk κ.K C f) (D : FunD κ.K y qual params body scope [] kws f fd)
    (hb : ∀ (kV doc pm : Value) (an : Option Addr) (cdv ct : Value) (us vs : List Value), us.length = 1 → vs.length = ks.length → bindArgs (PySem.W.fnOf y qual params body scope .none kV doc pm an cdv ct) ⟨us, ks.zip vs⟩ = pure (ps.zip (permL perm (us ++ vs))))
    (h : FnG κ k f fd ps (spF κ n F)) : KnIW κ k c n F ks perm := by
  refine ⟨C, f, fd, ps, g, m, h, ⟨?_, fun a b => vals_perm (vals_appB a b) perm⟩⟩
  obtain ⟨oc, od, dV, kV, doc, pm, an, cdv, ct, osl, rfl, lk, hcd, hD, hK⟩ := D.ex
  rcases hD with ⟨_, rfl⟩ | ⟨e, _⟩
  · exact fun s us ws _ h1 h2 => .of_eq (hb kV doc pm an cdv ct us ws h1 h2)
  · exact absurd rfl e
section
variable [Tb] {X : Cx} {W : WX} {pos p : Pos} {c : Str} {rk : CA} {k n : Nat} {F : List SV → AH → R AV} {ks : List Str} {perm : List Nat} {kws : List Keyword}
theorem run_makeK {pins : List (Addr × Obj)} {σ : L2.St} {H : Hp} {s : Shared} {Q : VK} {ws : List Value} {zs : List V} {C f : Addr} {fd : FuncData} {ps : List Str} {sp : Sp} (M : Mk X.K C f) (B : Be X W (k + 1)) (F : FnG (kf X) k f fd ps sp) (hb : KBn X.K fd ps 1 ks (fun us ws => permL perm (us ++ ws)) (fun us ws => permL perm (us ++ ws)))
    (I : Inv X pins σ H s) (rz : Vals zs ws) (l2 : zs.length = ks.length)
    (h : ∀ x dx, H x = none → H dx = none → dx ≠ x → sp (permL perm (.ref x :: zs)) (upd (upd H dx (.own x)) x (.ins C dx [])) (fun v H2 => v = .non ∧ Q (.ref x) H2) (WE W σ)) :
    wpAny (model X.prog X.w) X.A (call (.ref C) [] (ks.zip ws)) (EP X pins σ Q) X.xe s := by
  have hq := h (s.heap.objs.size + 1) s.heap.objs.size (I.hok.fresh (Nat.le_succ _)) (I.hok.fresh (Nat.le_refl _)) (Nat.ne_of_lt (Nat.lt_succ_self _))
  have I2 := Inv.made (C := C) I
  have r1 : Vals [V.ref (s.heap.objs.size + 1)] [Value.ref (s.heap.objs.size + 1)] := .cons rfl .nil
  have r2 := hb.rel r1 rz
  have e2 : ws.length = ks.length := rz.length.symm.trans l2
  refine wpAny_call (make_map (f := f) I.kIn M.makes M.init (beq_iff_eq.mp M.fn) (codeAny_mono (F.run _ X.stack _ _ ⟨[Value.ref (s.heap.objs.size + 1)], ks.zip ws⟩ (permL perm ([Value.ref (s.heap.objs.size + 1)] ++ ws)) _ _ (WE W σ) (B.room.make C [] (ks.zip ws)) (guards_make.trans B.gd)
    (I2.env0.make C [] (ks.zip ws)) (hb.to _ [Value.ref (s.heap.objs.size + 1)] ws I2.kIn rfl e2) r2 hq) fun r s' hq' => ?_))
  cases r with
  | error e => exact passAt B.tk σ pins _ _ e s' I2 hq'
  | ok fl =>
    cases fl with
    | ret u =>
      obtain ⟨v, H', I3, rv, ev, q3⟩ := I2.after hq'
      subst ev
      exact ⟨rv, ⟨V.ref (s.heap.objs.size + 1), H', I3, rfl, q3⟩⟩
    | next => exact False.elim hq'
    | brk => exact False.elim hq'
    | cont => exact False.elim hq'
theorem make_goalK {m : Nat} {ι : List Addr} {vs : Loc} {M : AH} {σ : L2.St} {H : Hp} {Q : VK} {bs : List AV} {ws : List V} {C x dx : Addr} (hr : Rel (kf X) ι vs M σ H) (hm : X.mg c = some (.ref C)) (hb : VRs (kf X) ι H bs ws) (o : Out (kf X) W (VR (kf X)) ι vs σ H Q (makeKA c n F m perm bs M))
    (hx : H x = none) (hdx : H dx = none) (hne : dx ≠ x) : spF (kf X) n F (permL perm (.ref x :: ws)) (upd (upd H dx (.own x)) x (.ins C dx [])) (fun v H2 => v = .non ∧ Q (.ref x) H2) (WE W σ) := by
  unfold makeKA at o
  split at o
  case isFalse => exact o.elim
  rename_i hl
  obtain ⟨_, hl⟩ := hl
  have k1 : Keep H (upd H dx (.own x)) := Keep.new hdx
  have hx1 : upd H dx (.own x) x = none := by rw [upd_ne (Ne.symm hne)]; exact hx
  have k2 : Keep (upd H dx (.own x)) (upd (upd H dx (.own x)) x (.ins C dx [])) := Keep.new hx1
  have kk := k1.trans k2
  have rep2 : Rep (kf X) (ι ++ [x]) (M ++ [.ins c []]) (upd (upd H dx (.own x)) x (.ins C dx [])) := (hr.rep.other hdx).snoc hx1 ⟨C, dx, [], hm, upd_same, rfl, .nil⟩
  have sl2 : SLs (kf X) (ι ++ [x]) (upd (upd H dx (.own x)) x (.ins C dx [])) vs σ := hr.sl.mono (List.prefix_append _ _) kk
  have vx : VR (kf X) (ι ++ [x]) (upd (upd H dx (.own x)) x (.ins C dx [])) (.ref M.length) (.ref x) := by
    rw [vr_ref]
    exact ⟨x, by rw [← hr.rep.len]; simp, rfl⟩
  have hp := permL_vrs (VRs.cons vx (hb.mono (List.prefix_append _ _) kk)) perm
  refine ⟨by rw [← hp.length]; exact hl, ι ++ [x], _, _, rep2, paired_val hp, ?_⟩
  unfold madeR at o
  cases e : F ((permL perm (.ref M.length :: bs)).map .val) (M ++ [.ins c []]) with
  | ok a M' =>
    rw [e] at o
    dsimp only at o
    cases a with
    | non =>
      refine fun ι' H' v h1 h2 h3 h4 => ?_
      rw [vr_non] at h4
      refine ⟨h4, o ι' H' _ ((List.prefix_append _ _).trans h1) (kk.trans h2) ⟨sl2.mono h1 h2, h3⟩ (vx.mono h1 h2)⟩
    | _ => exact o.elim
  | exc c' fs M' =>
    rw [e] at o
    exact fun ι' H' C d h1 h2 h3 h4 => o ι' H' C d ((List.prefix_append _ _).trans h1) (kk.trans h2) ⟨sl2.mono h1 h2, h3⟩ h4
  | bad => rw [e] at o; exact o
theorem ev_makeK0 (B : Be X W (k + 1)) (hk : KnIW (kf X) k c n F ks perm) (hg : Gl X c) (hkw : EvK X W kws rk) (hall : (backToKw pos (keywordEach kws X.env)).all (·.1.isSome) = true := by rfl) (hks : (backToKw pos (keywordEach kws X.env)).filterMap (·.1) = ks := by rfl)
    (hdb : (c == ("__debug__" : Str)) = false := by decide +kernel)
    (hpl : ((backTo pos (starEach [] X.env)).any (·.1) || (backToKw pos (keywordEach kws X.env)).any (·.1.isNone)) = false := by rfl) : EvE X W (.Call (.Name c p) [] kws pos) (makeK c n F ks.length perm rk) := by
  obtain ⟨C, f, fd, ps, h1, h2, h3, h4⟩ := hk.ex
  refine ⟨fun pins s σ H Q I ⟨ι, vs, M, hr, o⟩ => ?_⟩
  refine wpAny_Call_Name_kw (ld_glob I hg h1 ?_ hdb)
  have hq : rdA (kf X) W rk σ H fun ws H2 => ∃ ι1 bs M1, Rel (kf X) ι1 vs M1 σ H2 ∧ VRs (kf X) ι1 H2 bs ws ∧ Out (kf X) W (VR (kf X)) ι1 vs σ H2 Q (makeKA c n F ks.length perm bs M1) :=
    Out.run hr o fun ι2 bs M2 ws H2 b1 b2 b3 b4 b5 => ⟨ι2, bs, M2, b3, b4, b5⟩
  refine PySem.W.callWith_KW0 (h₀ := X.base) I.ok.mod.kin h2.kp hall ?_ hpl
  refine thn (hkw.run pos pins s σ H _ I hq) fun us2 s2 ⟨ws, H2, I2, r2, ι1, bs, M1, g1, g3, g4⟩ => ⟨I2.kIn, ?_⟩
  rw [hks]
  have hlb : bs.length = ks.length := by
    unfold makeKA at g4
    split at g4
    case isFalse => exact g4.elim
    rename_i hl
    exact hl.1
  show wpAny _ _ (call (.ref C) [] (ks.zip us2)) _ _ _
  exact run_makeK h2 B h3 h4 I2 r2 (by rw [← g3.length]; exact hlb) fun x dx a1 a2 a3 => make_goalK g1 h1 g3 g4 a1 a2 a3
end
end AM
end

section
set_option Elab.async false
set_option linter.all false
set_option autoImplicit false
set_option maxRecDepth 100000
set_option maxHeartbeats 4000000
/-! AM 28: == and != of own instances with anything. -/
namespace AM
open PySem PySem.Spec PyProof.Rows L2
section
variable {prog : Program} {w : World} {A : Around} {E : Value → Shared → Prop} {s : Shared} {K : PySem.W.Frag} {x C L f : Addr} {h₀ : Heap} {m : Str → Option Value} {ox : Obj} {od : Option Obj} {b tb : Value}
theorem slot_obj_ne : Slot "object" "__ne__" "object.__ne__" :=
  .of (owner := "object") (n := "__ne__") (by rw [typeLookup_type, builtinLookup_eq_fast]; kernel_rfl) (by decide +kernel) (by decide +kernel) (by decide +kernel)
    (by first | exact .inl (by decide +kernel) | exact .inr (by decide +kernel)) (by rw [isSubtype_type]; kernel_rfl)
/-- x != b, by an own __eq__ alone -/
theorem ne_K {Q : Value → Shared → Prop} (hu : A.units + 1 < cLine) (F : Fr h₀ L s.heap m) (X₀ : K.In h₀) (I : PySem.W.InstAt s.heap x ox C od) (hb : PySem.W.Looks (model prog w) s.heap (typeOf b) tb) (hn : PySem.W.notFirst K C tb = true)
    (hs : PySem.W.findIn K (.ref C) "__ne__" = some (some (.builtin "object.__ne__"))) (he : PySem.W.findIn K (.ref C) "__eq__" = some (some (.ref f))) (hf : PySem.W.isFn K (.ref f) = true) (ho : PySem.W.mroIn K C (.type "object") = some true)
    (h : wpAny (model prog w) A.in1 (call (.ref f) [.ref x, b]) (fun v s' => ∃ r, v = .bool r ∧ Q (.bool (!r)) s') E s) : wpAny (model prog w) A (richCompare .NotEq (.ref x) b) Q E s := by
  have X := X₀.keeps F.keep
  have sp : PySem.W.Looks (model prog w) s.heap (specialOf (.ref x) "__ne__") (some (.builtin "object.__ne__")) := by
    unfold specialOf
    exact I.type.andThen (PySem.W.looks_findIn X hs)
  have iv : PySem.W.Looks (model prog w) s.heap (isInstance (.ref x) (.type "object")) true := by
    unfold isInstance
    exact I.type.andThen (PySem.W.looks_subIn X (t := .ref C) ho)
  have one : wpAny (model prog w) A (tryCompare (.ref x) (cmpInfo .NotEq).2.1 b) (fun r s' => ∃ v, r = some v ∧ Q v s') E s := by
    rw [cmpInfo_NotEq]
    dsimp only
    unfold tryCompare
    refine wpAny_bind (NtL.csib sp (slot_obj_ne.bind _) ?_)
    refine wpAny_call (codeAny_call_builtin slot_obj_ne.plain PySem.F.cmpEntry_ne (@PySem.W.check_slot (model prog w) _ _ _ "object.__ne__" "object" "__ne__" (.ref x) [b] [] _ (by decide +kernel) (by decide +kernel) iv (PySem.F.cmpArgs_ne _ _) ?_))
    unfold Builtin.«object.__ne__»
    repeat (first
      | with_reducible refine wpAny_cRoomFor (show A.in1.units < cLine from hu) ?_
      | (refine wpAny_bind (m := callSpecialIfBound? (.ref x) (Str.ofString "__eq__") [b]) (PySem.W.ifBound_K X I he hf (wpAny_mono h (fun v s' hv => ?_) fun _ _ e => e)))
      | wp_step)
    obtain ⟨r, rfl, hq⟩ := hv
    repeat (first | exact ⟨_, rfl, hq⟩ | exact hq | exact wpAny_pure ⟨_, rfl, hq⟩ | (refine wpAny_bind (m := truthy (.bool _)) (wpAny_truthy_bool ?_)) | wp_step)
  unfold richCompare
  simp only [oneThing_ref]
  refine wpAny_holding (wpAny_bind (wpAny_cRoomFor (Nat.lt_of_succ_lt hu) ?_))
  refine wpAny_bind (I.type.here (wpAny_bind (hb.here ?_)))
  split
  · rename_i q
    have e : PySem.W.subIn K tb (.ref C) = some false := by
      rcases Bool.or_eq_true_iff.mp hn with e | e
      · rw [beq_iff_eq.mp e] at q; simp at q
      · exact beq_iff_eq.mp e
    refine wpAny_bind ((PySem.W.looks_subIn X e).here ?_)
    simp only [Bool.false_eq_true, if_false]
    refine wpAny_bind (wpAny_mono one (fun r s' z => ?_) fun _ _ e => e)
    obtain ⟨v, rfl, hq⟩ := z
    exact wpAny_pure hq
  · refine wpAny_bind (wpAny_pure ?_)
    simp only [Bool.false_eq_true, if_false]
    refine wpAny_bind (wpAny_mono one (fun r s' z => ?_) fun _ _ e => e)
    obtain ⟨v, rfl, hq⟩ := z
    exact wpAny_pure hq
end
end AM
end

section
set_option Elab.async false
set_option linter.all false
set_option autoImplicit false
set_option maxRecDepth 100000
set_option maxHeartbeats 4000000
/-! AM 29: == and != over functions, own instances, data; isinstance among several own classes. -/
namespace AM
open PySem PySem.Spec PyProof.Rows L2
def tnames : List String := ["NoneType", "bool", "int", "str", "tuple", "list", "dict", "function"]
/-- what the written part says of comparing own instances, and of own classes among themselves -/
structure CmpF (κ : Cfg) (ws : List Str) : Prop where
  ok : ∀ c C, c ∈ ws → κ.mg c = some (.ref C) → PySem.W.findIn κ.K (.ref C) "__ne__" = some (some (.builtin "object.__ne__")) ∧ PySem.W.mroIn κ.K C (.type "object") = some true ∧ (∀ a ∈ tnames, PySem.W.notFirst κ.K C (.type a) = true) ∧
    ∀ d D, d ∈ ws → κ.mg d = some (.ref D) → PySem.W.notFirst κ.K C (.ref D) = true ∧ (d ≠ c → PySem.W.kitOne κ.K (.ref C) (.ref D) = some false)
def cmB (ws : List Str) (x : Str) (K : PySem.W.Frag) : Bool :=
  He.eqO (PySem.W.findIn K (.ref (He.ga K x)) "__ne__") (some (some (.builtin "object.__ne__"))) && (decide (PySem.W.mroIn K (He.ga K x) (.type "object") = some true) && (tnames.all (fun a => PySem.W.notFirst K (He.ga K x) (.type a)) &&
    ws.all fun d => PySem.W.notFirst K (He.ga K x) (.ref (He.ga K d)) && (decide (d = x) || decide (PySem.W.kitOne K (.ref (He.ga K x)) (.ref (He.ga K d)) = some false))))
theorem cmB_ok {ws : List Str} {κ : Cfg} (h : ∀ x ∈ ws, cmB ws x κ.K = true ∧ κ.mg x = some (.ref (He.ga κ.K x))) : CmpF κ ws := by
  refine ⟨fun x C hx e => ?_⟩
  obtain ⟨h1, g⟩ := h x hx
  have e2 : Value.ref C = .ref (He.ga κ.K x) := Option.some.inj (e.symm.trans g)
  cases e2
  obtain ⟨h1, h2⟩ := He.ba h1
  obtain ⟨h2, h3⟩ := He.ba h2
  obtain ⟨h3, h4⟩ := He.ba h3
  refine ⟨He.eqO_ok h1, of_decide_eq_true h2, fun a ha => List.all_eq_true.mp h3 a ha, fun d D hd ed => ?_⟩
  have e3 : Value.ref D = .ref (He.ga κ.K d) := Option.some.inj (ed.symm.trans (h d hd).2)
  cases e3
  obtain ⟨k1, k2⟩ := He.ba (List.all_eq_true.mp h4 d hd)
  refine ⟨k1, fun ne => ?_⟩
  rcases Bool.or_eq_true_iff.mp k2 with z | z
  · exact absurd (of_decide_eq_true z) ne
  · exact of_decide_eq_true z
/-- a's own ==, asked with b -/
def eqOwn (fns ws : List Str) (es : List (Str × (List SV → AH → R AV))) (a b : AV) (M : AH) : Option (R Bool) := match a with
  | .ref i => match insOf M i with
    | some c => some (match es.lookup c, tyA fns ws M b with
      | some F, some _ => if c ∈ ws then (match F [.val a, .val b] M with
        | .ok (.bl k) M' => .ok k M'
        | _ => .bad) else .bad
      | _, _ => .bad)
    | none => none
  | _ => none
def opEqF (fns : List Str) (a b : AV) (M : AH) : R AV := match a, b with
  | .glo x, .glo y => if x = y ∧ x ∈ fns then .ok (.bl true) M else .bad
  | a, b => opEq a b M
def opEqX (fns ws : List Str) (es : List (Str × (List SV → AH → R AV))) (a b : AV) (M : AH) : R AV := match eqOwn fns ws es a b M with
  | some r => r.bind fun k M' => .ok (.bl k) M'
  | none => opEqF fns a b M
def opNeX (fns ws : List Str) (es : List (Str × (List SV → AH → R AV))) (a b : AV) (M : AH) : R AV := match eqOwn fns ws es a b M with
  | some r => r.bind fun k M' => .ok (.bl (!k)) M'
  | none => opNe a b M
/-- every class in the list has that == -/
structure KnEqs (κ : Cfg) (k : Nat) (es : List (Str × (List SV → AH → R AV))) : Prop where
  ok : ∀ c F, es.lookup c = some F → KnEq κ k c F
theorem KnEqs.nil {κ : Cfg} {k : Nat} : KnEqs κ k [] := ⟨fun _ _ e => by cases e⟩
theorem KnEqs.cons {κ : Cfg} {k : Nat} {c : Str} {F : List SV → AH → R AV} {es : List (Str × (List SV → AH → R AV))} (h : KnEq κ k c F) (t : KnEqs κ k es) : KnEqs κ k ((c, F) :: es) := by
  refine ⟨fun d G e => ?_⟩
  rw [List.lookup_cons] at e
  split at e
  · rename_i q
    rw [beq_iff_eq.mp q]
    cases e
    exact h
  · exact t.ok d G e
section
variable [Tb] {X : Cx} {W : WX} {k : Nat} {fns ws : List Str} {es : List (Str × (List SV → AH → R AV))}
/-- the type of a value, looked up -/
theorem ty_look {pins : List (Addr × Obj)} {σ0 : L2.St} {H : Hp} {s : Shared} {ι : List Addr} {M : AH} {a : AV} {x : V} {u : Value} {t : AT} (I : Inv X pins σ0 H s) (G : GloFn (kf X) fns) (F : IsF (kf X) ws) (rep : Rep (kf X) ι M H) (h : VR (kf X) ι H a x) (r : RelV x u) (e : tyA fns ws M a = some t) :
    ∃ tv, PySem.W.Looks (model X.prog X.w) s.heap (typeOf u) tv ∧ TV (kf X) t tv ∧ ∀ c, t = .own c → c ∈ ws := by
  obtain ⟨P, tv, Z, p, _, hT, hw⟩ := kit_av I G F rep h r e
  exact ⟨tv, Z.ty _ _ I.kIn p, hT, hw⟩
theorem nf_ty (C : CmpF (kf X) ws) {c : Str} {A : Addr} (hc : c ∈ ws) (m : X.mg c = some (.ref A)) {t : AT} {tv : Value} (hT : TV (kf X) t tv) (hw : ∀ c, t = .own c → c ∈ ws) : PySem.W.notFirst X.K A tv = true := by
  obtain ⟨_, _, h3, h4⟩ := C.ok c A hc m
  cases t with
  | own d =>
    obtain ⟨D, md, rfl⟩ := hT
    exact (h4 d D (hw d rfl) md).1
  | _ =>
    have hT : tv = .type _ := hT
    subst hT
    exact h3 _ (by decide)
/-- what runs when an own == is asked -/
theorem own_run {n : Nat} {A' : Around} (hroom : Room n A') (hg : A'.guards = some []) (hfr : A'.frames = X.A.frames) (tk : Takes X W) {c : Str} {F : List SV → AH → R AV} {pins : List (Addr × Obj)} {σ σ0 : L2.St} {H : Hp} {s : Shared} {ι : List Addr} {vs : Loc} {M M' : AH} {a b : AV} {x y : V} {u v : Value} {C : Addr} {kk : Bool} {P : Value → Shared → Prop}
    (E : KnEq (kf X) n c F) (m : X.mg c = some (.ref C)) (I : Inv X pins σ0 H s) (hr : Rel (kf X) ι vs M σ H) (ha : VR (kf X) ι H a x) (hb : VR (kf X) ι H b y) (rx : RelV x u) (ry : RelV y v)
    (e : F [.val a, .val b] M = .ok (.bl kk) M') (fin : ∀ (ι' : List Addr) (H' : Hp) (s' : Shared), ι <+: ι' → Keep H H' → Rel (kf X) ι' vs M' σ H' → Inv X pins σ0 H' s' → P (.bool kk) s') :
    ∃ f, PySem.W.findIn X.K (.ref C) "__eq__" = some (some (.ref f)) ∧ PySem.W.isFn X.K (.ref f) = true ∧ wpAny (model X.prog X.w) A' (call (.ref f) [u, v]) P X.xe s := by
  obtain ⟨f, fd, ps, f1, f2, f3, f4⟩ := E.ex C m
  refine ⟨f, f1, f2, ?_⟩
  have hsp : spF (kf X) 2 F [x, y] H (fun w H' => w = .bl kk ∧ ∃ ι', ι <+: ι' ∧ Keep H H' ∧ Rel (kf X) ι' vs M' σ H') (fun _ _ _ => False) := by
    refine ⟨rfl, ι, M, _, hr.rep, .cons (show SVR (kf X) ι H (.val a) _ from ha) (.cons (show SVR (kf X) ι H (.val b) _ from hb) .nil), ?_⟩
    rw [e]
    refine fun ι' H' w h1 h2 h3 h4 => ?_
    rw [vr_bl] at h4
    exact ⟨h4, ι', h1, h2, hr.sl.mono h1 h2, h3⟩
  have hl := f3.len _ _ _ _ hsp
  have r2 : Vals [x, y] [u, v] := .cons rx (.cons ry .nil)
  have e0 : Env0 X.prog X.w X.K X.mg X.base A' X.stack s H := by
    have e := I.env0
    exact ⟨by rw [hfr]; exact e.frames, e.mod, e.bs, e.bsz, e.funs, e.frf, e.hok, e.bare⟩
  refine wpAny_call (codeAny_mono (f3.run A' X.stack s H ⟨[u, v], []⟩ [u, v] [x, y] _ (fun _ _ _ => False) hroom hg e0 (by
    have := f4 s [u, v] I.kIn (by simpa using hl)
    simpa using this) r2 hsp) fun r s' hq => ?_)
  cases r with
  | error e => exact tk e s' (XE.of_call I (fun _ _ _ h => h.elim) hq)
  | ok fl =>
    cases fl with
    | ret w =>
      obtain ⟨z, H', I', rz, ez, ι', k1, k2, k3⟩ := I.after hq
      subst ez
      cases rz
      exact fin ι' H' _ k1 k2 k3 I'
    | next => exact False.elim hq
    | brk => exact False.elim hq
    | cont => exact False.elim hq
/-- what an own compare stands on -/
theorem own_cases {a b : AV} {M : AH} {r : R Bool} {β : Type} {rel : List Addr → Hp → AV → β → Prop} {ι : List Addr} {vs : Loc} {σ : L2.St} {H : Hp} {Q : β → Hp → Prop} {g : Bool → Bool} (h : eqOwn fns ws es a b M = some r) (o : Out (kf X) W rel ι vs σ H Q (r.bind fun k M' => .ok (.bl (g k)) M')) :
    ∃ i c F t kk M', a = .ref i ∧ insOf M i = some c ∧ es.lookup c = some F ∧ tyA fns ws M b = some t ∧ c ∈ ws ∧ F [.val a, .val b] M = .ok (.bl kk) M' ∧ Out (kf X) W rel ι vs σ H Q (.ok (.bl (g kk)) M') := by
  unfold eqOwn at h
  split at h
  case h_2 => cases h
  rename_i i
  split at h
  case h_2 => cases h
  rename_i c hc
  cases h
  split at o
  case h_2 => exact o.elim
  rename_i F t hF ht
  split at o
  case isFalse => exact o.elim
  rename_i hw
  split at o
  · rename_i kk M' e
    exact ⟨i, c, F, t, kk, M', rfl, hc, hF, ht, hw, e, o⟩
  · exact o.elim
theorem ins_of {ι : List Addr} {vs : Loc} {M : AH} {σ : L2.St} {H : Hp} {i : Nat} {c : Str} {x : V} (hr : Rel (kf X) ι vs M σ H) (ha : VR (kf X) ι H (.ref i) x) (h : insOf M i = some c) : ∃ p C dx gs, x = .ref p ∧ X.mg c = some (.ref C) ∧ H p = some (.ins C dx gs) := by
  rw [vr_ref] at ha
  obtain ⟨p, ei, rfl⟩ := ha
  unfold insOf at h
  split at h
  case h_2 => cases h
  rename_i c' fs em
  cases h
  obtain ⟨C, dx, gs, k0, k1, _⟩ := hr.rep.at_ em ei
  exact ⟨p, C, dx, gs, rfl, k0, k1⟩
theorem ok_eqX (B : Be X W (k + 1)) (G : GloFn (kf X) fns) (F : IsF (kf X) ws) (C : CmpF (kf X) ws) (E : KnEqs (kf X) k es) : OpR X (compareOp .Eq) (rd2 (kf X) W (opEqX fns ws es)) := by
  intro pins s σ0 H x y v u Q I rx ry ⟨ι, vs, M, σ, a, b, hr, ha, hb, o⟩
  unfold opEqX at o
  split at o
  · rename_i r er
    obtain ⟨i, c, Fe, t, kk, M', rfl, hi, hF, ht, hw, e, o⟩ := own_cases (g := fun k => k) er o
    obtain ⟨p, A, dx, gs, rfl, m, hp⟩ := ins_of hr ha hi
    obtain ⟨tv, lk, hT, hwt⟩ := ty_look I G F hr.rep hb ry ht
    have nf := nf_ty C hw m hT hwt
    have rx' : v = Value.ref p := rx
    subst rx'
    obtain ⟨mA, J, _⟩ := ins_get I.hok hp
    obtain ⟨od, J, _⟩ := J.look
    obtain ⟨m', hFr⟩ := I.fr
    obtain ⟨f, f1, f2, f3⟩ := own_run (A' := X.A) (P := PySem.W.CmpBack (EP X pins σ0 Q)) (B.room.mono (Nat.le_succ k)) B.gd rfl B.tk (E.ok c Fe hF) m I hr ha hb rfl ry e (fun ι' H' s' h1 h2 h3 I' => ⟨.bl kk, H', I', rfl, o ι' H' _ h1 h2 h3 (by rw [vr_bl])⟩)
    show wpAny _ _ (richCompare .Eq _ _) _ _ s
    exact PySem.W.cmp_K (op := .Eq) B.room.units0 hFr I.ok.mod.kin J lk nf f1 f2 f3
  · unfold opEqF at o
    split at o
    · split at o
      case isFalse => exact o.elim
      rename_i hxy
      obtain ⟨rfl, hm⟩ := hxy
      rw [vr_glo] at ha hb
      obtain ⟨f, e1, rfl⟩ := ha
      obtain ⟨g, e2, rfl⟩ := hb
      rw [e1] at e2; cases e2
      cases rx; cases ry
      obtain ⟨of, l1, l2⟩ := G.ok _ _ hm e1
      have hT : s.TypeIs (.ref f) "function" := ⟨of, I.kIn _ _ l1, l2⟩
      show wpAny _ _ (richCompare .Eq _ _) _ _ s
      exact wpAny_richCompare_same_room (T := "function") hT hT slot_fn_eq
        (GQ.call_here slot_fn_eq hT PySem.F.entry_object_eq (PySem.F.args_object_eq_2 _ _) (objEq_entry_same (show (Value.bool true ≠ .notImplemented ∧ EP X pins σ0 Q (.bool true) s) from ⟨(by intro e; cases e), .bl true, H, I, rfl, Out.fin hr o (by rw [vr_bl])⟩))) B.room.units0
    · exact ok_eq B.u64 pins s σ0 H x y v u Q I rx ry ⟨ι, vs, M, σ, _, _, hr, ha, hb, o⟩
theorem ok_neX (B : Be X W (k + 1)) (G : GloFn (kf X) fns) (F : IsF (kf X) ws) (C : CmpF (kf X) ws) (E : KnEqs (kf X) k es) : OpR X (compareOp .NotEq) (rd2 (kf X) W (opNeX fns ws es)) := by
  intro pins s σ0 H x y v u Q I rx ry ⟨ι, vs, M, σ, a, b, hr, ha, hb, o⟩
  unfold opNeX at o
  split at o
  · rename_i r er
    obtain ⟨i, c, Fe, t, kk, M', rfl, hi, hF, ht, hw, e, o⟩ := own_cases (g := fun k => !k) er o
    obtain ⟨p, A, dx, gs, rfl, m, hp⟩ := ins_of hr ha hi
    obtain ⟨tv, lk, hT, hwt⟩ := ty_look I G F hr.rep hb ry ht
    have nf := nf_ty C hw m hT hwt
    obtain ⟨c1, c2, _, _⟩ := C.ok c A hw m
    have rx' : v = Value.ref p := rx
    subst rx'
    obtain ⟨mA, J, _⟩ := ins_get I.hok hp
    obtain ⟨od, J, _⟩ := J.look
    obtain ⟨m', hFr⟩ := I.fr
    obtain ⟨f, f1, f2, f3⟩ := own_run (A' := X.A.in1) (P := fun v s' => ∃ r, v = .bool r ∧ EP X pins σ0 Q (.bool (!r)) s') B.room.in1 B.gd rfl B.tk (E.ok c Fe hF) m I hr ha hb rfl ry e (fun ι' H' s' h1 h2 h3 I' => ⟨kk, rfl, .bl (!kk), H', I', rfl, o ι' H' _ h1 h2 h3 (by rw [vr_bl])⟩)
    show wpAny _ _ (richCompare .NotEq _ _) _ _ s
    exact ne_K (Nat.lt_of_le_of_lt (by omega) B.u64) hFr I.ok.mod.kin J lk nf c1 f1 f2 c2 f3
  · exact ok_ne B.u64 pins s σ0 H x y v u Q I rx ry ⟨ι, vs, M, σ, _, _, hr, ha, hb, o⟩
/-- isinstance, several own classes -/
def isA2 (fns ws : List Str) (as : List AV) (M : AH) : R AV := match as with
  | [x, .glo d] => match tyA fns ws M x with
    | some (.own c) => if c ∈ ws ∧ d ∈ ws ∧ c ≠ d then .ok (.bl false) M else isA fns ws as M
    | _ => isA fns ws as M
  | _ => isA fns ws as M
theorem cr_isa2 (G : GloFn (kf X) fns) (F : IsF (kf X) ws) (C : CmpF (kf X) ws) : CallR X (.builtin "isinstance") (rdN (kf X) W (isA2 fns ws)) := by
  intro pins s σ0 H xs us Q I r ⟨ι, vs, M, σ, as, hr, ha, o⟩
  unfold isA2 at o
  split at o
  · rename_i x d
    split at o
    · rename_i c et
      split at o
      · rename_i hcd
        obtain ⟨hc, hd, hne⟩ := hcd
        obtain ⟨vx, ws1, rfl, h1, h2⟩ := ha.cons_inv
        obtain ⟨vc, ws2, rfl, h3, h4⟩ := h2.cons_inv
        obtain rfl := h4.nil_inv
        obtain ⟨u1, u2, rfl, r1, r2⟩ := vals2 r
        obtain ⟨P, tv, Z, p, hx, hT, hw⟩ := kit_av I G F hr.rep h1 r1 et
        obtain ⟨A, mA, rfl⟩ := hT
        rw [vr_glo] at h3
        obtain ⟨D, mD, rfl⟩ := h3
        cases (show u2 = Value.ref D from r2)
        exact PySem.W.kia_one Z I.kIn p ((C.ok c A hc mA).2.2.2 d D hd mD |>.2 (Ne.symm hne)) hx fun tk => ⟨.bl false, H, I.tok tk, rfl, Out.fin hr o (by rw [vr_bl])⟩
      · exact cr_isa G F pins s σ0 H xs us Q I r ⟨ι, vs, M, σ, _, hr, ha, o⟩
    · exact cr_isa G F pins s σ0 H xs us Q I r ⟨ι, vs, M, σ, _, hr, ha, o⟩
  · exact cr_isa G F pins s σ0 H xs us Q I r ⟨ι, vs, M, σ, _, hr, ha, o⟩
end
end AM
end

section
set_option Elab.async false
set_option linter.all false
set_option autoImplicit false
set_option maxRecDepth 100000
set_option maxHeartbeats 4000000
/-! AM 30: xs[::-1] of a list. -/
namespace AM
open PySem PySem.Spec PyProof.Rows L2
def revA (a : AV) (M : AH) : R AV := match a with
  | .ref i => match M[i]? with
    | some (.lst xs) => newL xs.reverse M
    | some (.frz xs) => newL xs.reverse M
    | _ => .bad
  | _ => .bad
def revC (ca : CE) (st : CO) : CE := fun vs M => (ca vs M).bind fun a M1 => (st vs M1).bind fun k M2 => if k = some (-1) then revA a M2 else .bad
theorem vrs_rev {κ : Cfg} {ι : List Addr} {H : Hp} : ∀ {xs : List AV} {ws : List V}, VRs κ ι H xs ws → VRs κ ι H xs.reverse ws.reverse
  | [], ws, h => by rw [h.nil_inv]; exact .nil
  | x :: xs, ws, h => by
    obtain ⟨v, us, rfl, r, t⟩ := h.cons_inv
    rw [List.reverse_cons, List.reverse_cons]
    exact (vrs_rev t).app (.cons r .nil)
section
variable [Tb] {X : Cx} {W : WX} {e : Expr} {se : Option Expr} {pos p2 : Pos} {ca : CE} {cst : CO}
theorem ev_rev (he : EvE X W e ca) (hst : EvO X W se cst) (hs : ∀ o i, ∃ ops, subscripted (.Slice none none se p2) false o i = operate ops (getItem o i) := by intro o i; exact ⟨_, by with_unfolding_all rfl⟩) : EvE X W (.Subscript e (.Slice none none se p2) pos) (revC ca cst) := by
  refine ⟨fun pins s σ H Q I ⟨ι, vs, M, hr, o⟩ => ?_⟩
  refine Subscript_ (thn (he.run pins s σ H _ I (Out.run (Q1 := fun x H1 => rd (kf X) W relO cst σ H1 fun k H2 => ∃ ι1 M1 a, Rel (kf X) ι1 vs M1 σ H2 ∧ VR (kf X) ι1 H2 a x ∧ Out (kf X) W (VR (kf X)) ι1 vs σ H2 Q (if k = some (-1) then revA a M1 else .bad)) hr o fun ι1 a M1 v H1 h1 h2 h3 h4 h5 => Out.run h3 h5 fun ι2 k M2 k' H2 g1 g2 g3 g4 g5 => by
    subst g4
    exact ⟨ι2, M2, a, g3, h4.mono g1 g2, g5⟩)) fun v s1 ⟨x, H1, I1, r1, q1⟩ => ?_)
  refine wpAny_Slice ?_
  rw [evalPart_none]
  refine wpAny_pure ?_
  refine wpAny_pure ?_
  refine thn (hst.run pins s1 σ H1 _ I1 q1) fun vst s3 ⟨st, H3, I3, pst, ι1, M1, a, g1, g2, g3⟩ => ?_
  have I4 : Inv X pins σ H3 { s3 with heap := s3.heap.push { cls := .type "slice", data := .fields #[.none, .none, vst] } } := I3.kept (t' := s3.toks) fun b ob q => Heap.get?_push_of_some _ q
  split at g3
  case isFalse => exact g3.elim
  rename_i hk
  subst hk
  have go : ∀ {p : Addr} {xs : List AV} {ws : List V}, x = .ref p → VRs (kf X) ι1 H3 xs ws → SqL X.K H3 p ws → Out (kf X) W (VR (kf X)) ι1 vs σ H3 Q (newL xs.reverse M1) →
      wpAny (model X.prog X.w) X.A (subscriptTail e (.Slice none none se p2) v (.ref s3.heap.objs.size)) (EP X pins σ Q) X.xe { s3 with heap := s3.heap.push { cls := .type "slice", data := .fields #[.none, .none, vst] } } := by
    intro p xs ws ex hv hx o2
    subst ex
    obtain rfl : v = Value.ref p := r1
    obtain ⟨_, n⟩ := Out.newL g1 (vrs_rev hv) o2
    obtain ⟨its, r, ht, hz⟩ := I4.list hx
    obtain ⟨ops, ho⟩ := hs (.ref p) (.ref s3.heap.objs.size)
    refine tail_any (ops := ops) ht.isList.typeIs slot_list_getitem.lookup ?_ ho
    refine wpAny_getItem_list_slice ht.isList (Heap.IsSliceOf.new ..) .none .none pst (by decide) ?_ (by rw [List.size_toArray] <;> have := r.length <;> omega)
    rw [PySem.W.krv_pick]
    refine ⟨.ref (Heap.push s3.heap { cls := .type "slice", data := .fields #[.none, .none, vst] }).objs.size, _, I4.laid (t' := s3.toks) (o := .lst ws.reverse) (fun b ob q => Heap.get?_push_of_some _ q) (Nat.le_refl _) ?_, rfl, n _ (I4.hok.fresh (Nat.le_refl _))⟩
    refine ⟨by simpa using hz, _, 0, ?_, Heap.get?_push_size _ rfl⟩
    simpa using r.reverse
  unfold revA at g3
  split at g3
  case h_2 => exact g3.elim
  rename_i i
  rw [vr_ref] at g2
  obtain ⟨p, ei, ex⟩ := g2
  split at g3
  · rename_i xs q
    obtain ⟨ws, k1, k2⟩ := g1.rep.at_ q ei
    exact go ex k2 (SqL.of k1) g3
  · rename_i xs q
    obtain ⟨ob, ws, k1, k2⟩ := g1.rep.at_ q ei
    exact go ex k2 (.inl (.inr ⟨ob, k1⟩)) g3
  · exact g3.elim
end
end AM
end

section
set_option Elab.async false
set_option linter.all false
set_option autoImplicit false
set_option maxRecDepth 100000
set_option maxHeartbeats 4000000
/-! AM 31: != of dicts and functions with whole numbers. -/
namespace AM
open PySem PySem.Spec PyProof.Rows L2
section
variable {prog : Program} {w : World} {A : Around} {E : Value → Shared → Prop} {s : Shared}
theorem ne_unlike {a b : Value} {Ta Tb ida idb : String} {k : Bool} {Q : Value → Shared → Prop} (hu : A.units < cLine) (ha : s.TypeIs a Ta) (hb : ∀ s' : Shared, s'.TypeIs b Tb)
    (hne : (Value.type Ta != Value.type Tb) = true) (hsub : isSubtype (.type Tb) (.type Ta) = pure false) (h1 : Slot Ta (cmpInfo .NotEq).2.1 ida) (h2 : Slot Tb (cmpInfo .NotEq).2.2 idb) (hk : isSame a b = pure k)
    (hc : wpAny (model prog w) A (call (.builtin ida) [a, b]) (fun v s₁ => v = .notImplemented ∧ wpAny (model prog w) A (call (.builtin idb) [b, a]) (fun v s₂ => v = .notImplemented ∧ Q (.bool (!k)) s₂) E s₁) E s) :
    wpAny (model prog w) A (richCompare .NotEq a b) Q E s := by
  rcases hi : cmpInfo CmpOp.NotEq with ⟨sym, f, r⟩
  rw [hi] at h1 h2
  simp only [richCompare, hi, ha.oneThing_none]
  refine wpAny_holding (wpAny_bind (wpAny_cRoomFor hu ?_))
  refine wpAny_bind (wpAny_typeOf ha (wpAny_bind (wpAny_typeOf (hb s) ?_)))
  simp only [hne, if_true]
  refine wpAny_bind (wpAny_of_eq hsub ?_)
  simp only [Bool.false_eq_true, if_false, Bool.not_false, if_true]
  refine wpAny_bind (m := tryCompare a _ b) (wpAny_tryCompare_declines ha h1 (wpAny_mono hc (fun v s₁ h₁ => ⟨h₁.1, ?_⟩) fun _ _ x => x))
  refine wpAny_bind (m := tryCompare b _ a) (wpAny_tryCompare_declines (hb s₁) h2 (wpAny_mono h₁.2 (fun v s₂ h₂ => ⟨h₂.1, ?_⟩) fun _ _ x => x))
  exact wpAny_bind (wpAny_rule (wpAny_bind (wpAny_of_eq hk (wpAny_pure h₂.2))))
theorem dict_ne_int {d : Value} {i : Int} {t : Tok} {Q : Fin → Shared → Prop} (h : Q (.done (.ret .notImplemented)) s) : wpAny (model prog w) A (Builtin.«dict.__ne__» ⟨[d, .int i t], []⟩) Q E s := by
  obtain ⟨hp, g, dr, tk, os⟩ := s
  unfold Builtin.«dict.__ne__»
  wp_walk
  refine wpAny_of_eq (show isSubtype (.type "int") (.type "dict") = pure false by rw [isSubtype_type]; kernel_rfl) ?_
  simp only [Bool.not_false, if_true]
  wp_walk
  exact h
theorem int_ne_ref {d : Addr} {i : Int} {t : Tok} {o : Obj} {Q : Fin → Shared → Prop} (ho : s.heap.get? d = some o) (hd : ∀ p, o.data ≠ .prim p) (h : Q (.done (.ret .notImplemented)) s) : wpAny (model prog w) A (Builtin.«int.__ne__» ⟨[.int i t, .ref d], []⟩) Q E s := by
  obtain ⟨hp, g, dr, tk, os⟩ := s
  unfold Builtin.«int.__ne__»
  wp_walk
  have e : (match o.data with
    | Data.prim (Value.int i tok) => (pure (some i) : Sem (Option Int))
    | x => pure none) = pure none := by
    split
    · rename_i h1
      exact absurd h1 (hd _)
    · rfl
  refine wpAny_of_eq e ?_
  wp_walk
  exact h
theorem slot_fn_ne : Slot "function" (cmpInfo .NotEq).2.1 "object.__ne__" :=
  .of (owner := "object") (n := "__ne__") (by rw [typeLookup_type, builtinLookup_eq_fast]; kernel_rfl) (by decide +kernel) (by decide +kernel) (by decide +kernel)
    (by first | exact .inl (by decide +kernel) | exact .inr (by decide +kernel)) (by rw [isSubtype_type]; kernel_rfl)
theorem slot_fn_eq' : Slot "function" "__eq__" "object.__eq__" := slot_fn_eq
theorem obj_eq_other {f : Addr} {i : Int} {t : Tok} {Q : Fin → Shared → Prop} (h : Q (.done (.ret .notImplemented)) s) : wpAny (model prog w) A (Builtin.«object.__eq__» ⟨[.ref f, .int i t], []⟩) Q E s := by
  obtain ⟨hp, g, dr, tk, os⟩ := s
  unfold Builtin.«object.__eq__»
  wp_walk
  exact h
theorem fn_ne_int {f : Addr} {i : Int} {t : Tok} {Q : Fin → Shared → Prop} (hu : A.units < cLine) (hT : s.TypeIs (.ref f) "function") (h : Q (.done (.ret .notImplemented)) s) : wpAny (model prog w) A (Builtin.«object.__ne__» ⟨[.ref f, .int i t], []⟩) Q E s := by
  unfold Builtin.«object.__ne__»
  repeat (first
    | with_reducible refine wpAny_cRoomFor hu ?_
    | (refine wpAny_bind (m := callSpecialIfBound? (.ref f) (Str.ofString "__eq__") [.int i t]) (wpAny_callSpecialIfBound?_slot hT slot_fn_eq' (wpAny_call (codeAny_call_builtin slot_fn_eq'.plain PySem.F.cmpEntry_eq (slot_fn_eq'.check _ _ _ _ _ _ _ _ hT (PySem.F.cmpArgs_eq _ _) (obj_eq_other ?_))))))
    | wp_step)
  exact h
theorem ne_dict_int {d : Addr} {i : Int} {t : Tok} {o : Obj} {Q : Value → Shared → Prop} (hu : A.units < cLine) (ho : s.heap.get? d = some o) (hc : o.cls = .type "dict") (hd : ∀ p, o.data ≠ .prim p) (h : Q (.bool true) s) : wpAny (model prog w) A (compareOp .NotEq (.ref d) (.int i t)) Q E s := by
  show wpAny _ A (richCompare .NotEq _ _) Q E s
  have hT : s.TypeIs (.ref d) "dict" := ⟨o, ho, hc⟩
  refine ne_unlike (k := false) hu hT (fun s' => typeIs_int s' i t) (by decide) (by rw [isSubtype_type]; kernel_rfl) F.slot_dict_ne F.slot_int_ne_refl rfl ?_
  refine wpAny_call (codeAny_call_builtin F.slot_dict_ne.plain F.entry_dict_ne (F.slot_dict_ne.check _ _ _ _ _ _ _ _ hT (F.args_dict_ne_2 _ _) (dict_ne_int ⟨rfl, ?_⟩)))
  exact wpAny_call (codeAny_call_builtin F.slot_int_ne_refl.plain F.entry_int_ne (F.slot_int_ne_refl.check _ _ _ _ _ _ _ _ (typeIs_int s i t) (F.args_int_ne_2 _ _) (int_ne_ref ho hd ⟨rfl, h⟩)))
theorem ne_fn_int {f : Addr} {i : Int} {t : Tok} {o : Obj} {Q : Value → Shared → Prop} (hu : A.units + 1 < cLine) (ho : s.heap.get? f = some o) (hc : o.cls = .type "function") (hd : ∀ p, o.data ≠ .prim p) (h : Q (.bool true) s) : wpAny (model prog w) A (compareOp .NotEq (.ref f) (.int i t)) Q E s := by
  show wpAny _ A (richCompare .NotEq _ _) Q E s
  have hT : s.TypeIs (.ref f) "function" := ⟨o, ho, hc⟩
  refine ne_unlike (k := false) (by omega) hT (fun s' => typeIs_int s' i t) (by decide) (by rw [isSubtype_type]; kernel_rfl) slot_fn_ne F.slot_int_ne_refl rfl ?_
  refine wpAny_call (codeAny_call_builtin slot_fn_ne.plain PySem.F.cmpEntry_ne (slot_fn_ne.check _ _ _ _ _ _ _ _ hT (PySem.F.cmpArgs_ne _ _) (fn_ne_int (A := A.in1) hu hT ⟨rfl, ?_⟩)))
  exact wpAny_call (codeAny_call_builtin F.slot_int_ne_refl.plain F.entry_int_ne (F.slot_int_ne_refl.check _ _ _ _ _ _ _ _ (typeIs_int s i t) (F.args_int_ne_2 _ _) (int_ne_ref ho hd ⟨rfl, h⟩)))
end
end AM
end

section
set_option Elab.async false
set_option linter.all false
set_option autoImplicit false
set_option maxRecDepth 100000
set_option maxHeartbeats 4000000
/-! AM 32: != of anything that the laws compare. -/
namespace AM
open PySem PySem.Spec PyProof.Rows L2
structure FnData (κ : Cfg) (fns : List Str) : Prop where
  ok : ∀ x f, x ∈ fns → κ.mg x = some (.ref f) → ∃ o fd, κ.K.lookup f = some o ∧ o.cls = .type "function" ∧ o.data = .func fd
def fdB (x : Str) (K : PySem.W.Frag) : Bool := match K.lookup (He.ga K x) with
  | some ⟨c, _, .func _, _⟩ => decide (c = .type "function")
  | _ => false
theorem fdB_ok {fns : List Str} {κ : Cfg} (h : ∀ x ∈ fns, fdB x κ.K = true ∧ κ.mg x = some (.ref (He.ga κ.K x))) : FnData κ fns := by
  refine ⟨fun x f hx e => ?_⟩
  obtain ⟨h, g⟩ := h x hx
  have e2 : Value.ref f = .ref (He.ga κ.K x) := Option.some.inj (e.symm.trans g)
  cases e2
  unfold fdB at h
  split at h
  · rename_i c od fd sl ho
    exact ⟨_, fd, ho, of_decide_eq_true h, rfl⟩
  · cases h
def neD (fns : List Str) (a b : AV) (M : AH) : Bool := match a, b with
  | .ref i, .int _ => match M[i]? with
    | some (.dct _) => true
    | _ => false
  | .glo x, .int _ => decide (x ∈ fns)
  | _, _ => false
def opNeY (fns ws : List Str) (es : List (Str × (List SV → AH → R AV))) (a b : AV) (M : AH) : R AV := if neD fns a b M = true then .ok (.bl true) M else opNeX fns ws es a b M
section
variable [Tb] {X : Cx} {W : WX} {k : Nat} {fns ws : List Str} {es : List (Str × (List SV → AH → R AV))}
theorem ok_neY (B : Be X W (k + 1)) (G : GloFn (kf X) fns) (D : FnData (kf X) fns) (F : IsF (kf X) ws) (C : CmpF (kf X) ws) (E : KnEqs (kf X) k es) : OpR X (compareOp .NotEq) (rd2 (kf X) W (opNeY fns ws es)) := by
  intro pins s σ0 H x y v u Q I rx ry ⟨ι, vs, M, σ, a, b, hr, ha, hb, o⟩
  unfold opNeY at o
  split at o
  case isFalse => exact ok_neX B G F C E pins s σ0 H x y v u Q I rx ry ⟨ι, vs, M, σ, a, b, hr, ha, hb, o⟩
  rename_i hd
  have fin : EP X pins σ0 Q (.bool true) s := ⟨.bl true, H, I, rfl, Out.fin hr o (by rw [vr_bl])⟩
  unfold neD at hd
  split at hd
  · rename_i i j
    rw [vr_int] at hb
    subst hb
    obtain ⟨t, rfl⟩ := (show ∃ t, u = Value.int j t from ry)
    rw [vr_ref] at ha
    obtain ⟨p, ei, rfl⟩ := ha
    obtain rfl : v = Value.ref p := rx
    split at hd
    case h_2 => cases hd
    rename_i kvs em
    rcases hr.rep.at_ em ei with ⟨gs, h1, _⟩ | ⟨ks, h1, _⟩
    · obtain ⟨_, _, ws', _, ob, es', ep2, h2, h3, h4, _⟩ := I.hok p _ h1
      exact ne_dict_int B.room.units0 h2 h3.1 (fun q e => by rw [h4] at e; cases e) fin
    · obtain ⟨⟨_, _, ob, es', ep2, xs, h2, h3, h4, _⟩, _⟩ := I.hok p _ h1
      exact ne_dict_int B.room.units0 h2 h3.1 (fun q e => by rw [h4] at e; cases e) fin
  · rename_i x' j
    rw [vr_int] at hb
    subst hb
    obtain ⟨t, rfl⟩ := (show ∃ t, u = Value.int j t from ry)
    rw [vr_glo] at ha
    obtain ⟨f, e1, rfl⟩ := ha
    obtain rfl : v = Value.ref f := rx
    obtain ⟨of, fd, l1, l2, l3⟩ := D.ok _ _ (of_decide_eq_true hd) e1
    exact ne_fn_int (Nat.lt_of_le_of_lt (by omega) B.u64) (I.kIn _ _ l1) l2 (fun q e => by rw [l3] at e; cases e) fin
  · cases hd
end
end AM
end

section
set_option Elab.async false
set_option linter.all false
set_option autoImplicit false
set_option maxRecDepth 100000
set_option maxHeartbeats 4000000
/-! AM 33: a, b, c = x, y, z; plain classes and methods, checked. -/
namespace AM
open PySem PySem.Spec PyProof.Rows L2
def parC3 (i j l : Nat) (r : CA) : CS := fun vs M => thenS (r vs M) vs fun as M1 => match as with
  | [a, b, c] => .nx (((vs.set i (some (.val a))).set j (some (.val b))).set l (some (.val c))) M1
  | _ => .bad
section
variable [Tb] {X : Cx} {W : WX} {x : Str} {pos : Pos}
theorem es_par3 {y z : Str} {px py pz pt : Pos} {kt k2 : Nat} {pt2 : Pos} {ea eb ec : Expr} {r : CA} (i j l : Nat) (hc : X.calm = true) (hN : X.N.Nodup) (ha : EvA X W [ea, eb, ec] r) (hi : X.N[i]? = some x := by rfl) (hj : X.N[j]? = some y := by rfl) (hl : X.N[l]? = some z := by rfl) (hij : i ≠ j := by decide) (hil : i ≠ l := by decide) (hjl : j ≠ l := by decide)
    (hx : X.env.scope.names.lookup x = some .local := by rfl) (hy : X.env.scope.names.lookup y = some .local := by rfl) (hz : X.env.scope.names.lookup z = some .local := by rfl)
    (hw : swappedStores [.Tuple [.Name x px, .Name y py, .Name z pz] kt pt] (.Tuple [ea, eb, ec] k2 pt2) X.env = pure (some [x, y, z]) := by rfl)
    (hs : swapsWithSole [.Tuple [.Name x px, .Name y py, .Name z pz] kt pt] (.Tuple [ea, eb, ec] k2 pt2) pos.line X.env = pure false := by rfl) : EvS X W (.Assign [.Tuple [.Name x px, .Name y py, .Name z pz] kt pt] (.Tuple [ea, eb, ec] k2 pt2) pos) (parC3 i j l r) :=
  PS.imp (ps_par3 hc hN hi hj hl hij hil hjl hx hy hz ha hw hs) fun D σ H ⟨ι, vs, M, hr, o⟩ => OutS.run hr o fun ι1 as M1 ws H1 h1 h2 h3 h4 h5 => by
    split at h5
    · obtain ⟨v, ws', rfl, g1, g2⟩ := h4.cons_inv
      obtain ⟨w, ws2, rfl, g3, g4⟩ := g2.cons_inv
      obtain ⟨u, ws3, rfl, g5, g6⟩ := g4.cons_inv
      obtain rfl := g6.nil_inv
      exact ⟨v, w, u, rfl, OutS.fin (((h3.slot g1).slot g3).slot g5) h5⟩
    · exact h5.elim
end
def clB (x : Str) (K : PySem.W.Frag) : Bool := (He.Fa.cls x).ok K
theorem clB_ok {x : Str} {K : PySem.W.Frag} (h : clB x K = true) : Cls K (He.ga K x) := He.cls_ok h
def meB (x m : Str) (K : PySem.W.Frag) : Bool := He.eqO (PySem.W.findIn K (.ref (He.ga K x)) m) (some (some (.ref (He.ma K (He.ga K x) m)))) && (PySem.W.isFn K (.ref (He.ma K (He.ga K x) m)) && PySem.W.keepIn K (.ref (He.ma K (He.ga K x) m)))
theorem meB_ok {x m : Str} {K : PySem.W.Frag} (h : meB x m K = true) : Meth K (He.ga K x) m (He.ma K (He.ga K x) m) := by
  obtain ⟨h1, h⟩ := He.ba h
  obtain ⟨h2, h3⟩ := He.ba h
  exact ⟨He.eqO_ok h1, h2, h3⟩
end AM
end

section
set_option Elab.async false
set_option linter.all false
set_option autoImplicit false
set_option maxRecDepth 100000
set_option maxHeartbeats 4000000
/-! AM 34: in, not in a tuple of whole numbers. -/
namespace AM
open PySem PySem.Spec PyProof.Rows L2
def intsT (a : AV) : Option (List Int) := match a with
  | .tup xs => intsOf xs
  | _ => none
def opInY (neg : Bool) (a b : AV) (M : AH) : R AV := match a, intsT b with
  | .int i, some ns => .ok (.bl (if neg then !(ns.any (· == i)) else ns.any (· == i))) M
  | a, _ => opIn neg a b M
section
variable [Tb] {X : Cx} {W : WX}
theorem ok_InY (hu : X.A.units + 65 < cLine) : OpR X (compareOp .In) (rd2 (kf X) W (opInY false)) := by
  intro pins s σ0 H x y v u Q I rx ry ⟨ι, vs, M, σ, a, b, hr, ha, hb, o⟩
  unfold opInY at o
  split at o
  · rename_i i ns hn
    unfold intsT at hn
    split at hn
    case h_2 => cases hn
    rename_i xs
    rw [vr_int] at ha
    subst ha
    obtain ⟨t, rfl⟩ := (show ∃ t, v = Value.int i t from rx)
    rw [vr_tup] at hb
    obtain ⟨p, ws, rfl, hp, hw⟩ := hb
    obtain rfl : u = Value.ref p := ry
    obtain ⟨its, r1, p1, _⟩ := I.tuple hp
    rw [VRs.ints hn hw] at r1
    exact in_tuple_ints p1 (intsAre_of r1) ⟨.bl (ns.any (· == i)), H, I, rfl, Out.fin hr o (by rw [vr_bl]; rfl)⟩
  · exact ok_In hu pins s σ0 H x y v u Q I rx ry ⟨ι, vs, M, σ, _, _, hr, ha, hb, o⟩
theorem ok_NotInY (hu : X.A.units + 65 < cLine) : OpR X (compareOp .NotIn) (rd2 (kf X) W (opInY true)) := by
  intro pins s σ0 H x y v u Q I rx ry ⟨ι, vs, M, σ, a, b, hr, ha, hb, o⟩
  unfold opInY at o
  split at o
  · rename_i i ns hn
    unfold intsT at hn
    split at hn
    case h_2 => cases hn
    rename_i xs
    rw [vr_int] at ha
    subst ha
    obtain ⟨t, rfl⟩ := (show ∃ t, v = Value.int i t from rx)
    rw [vr_tup] at hb
    obtain ⟨p, ws, rfl, hp, hw⟩ := hb
    obtain rfl : u = Value.ref p := ry
    obtain ⟨its, r1, p1, _⟩ := I.tuple hp
    rw [VRs.ints hn hw] at r1
    exact notin_tuple_ints p1 (intsAre_of r1) ⟨.bl (!(ns.any (· == i))), H, I, rfl, Out.fin hr o (by rw [vr_bl]; rfl)⟩
  · exact ok_NotIn hu pins s σ0 H x y v u Q I rx ry ⟨ι, vs, M, σ, _, _, hr, ha, hb, o⟩
end
end AM
end

section
set_option Elab.async false
set_option linter.all false
set_option autoImplicit false
set_option maxRecDepth 100000
set_option maxHeartbeats 4000000
/-! AM 35: a lambda handed on within a list comprehension's element. -/
namespace AM
open PySem PySem.Spec L2

/-- of the block as it is entered, its cells known -/
abbrev BlkD (X : Cx) (scope : Scope) (P : Cx → Prop) : Prop := ∀ (s : Shared) (H : Hp) (fp : List Addr), X.Ok → P (X.blk s H scope (compEnvC scope (cellsFrom (s.heap.objs.size + 1) scope.names (cloFrom X.env.cells scope.names [])) s.heap.objs.size X.env) fp)
section
variable {X : Cx}
theorem lcB_core {pins : List (Addr × Obj)} {s : Shared} {σ : L2.St} {H : Hp} {Q : VK} {elt tg iter : Expr} {ifs : List Expr} {scope : Scope} {own : List (Str × Nat)} {pos pos' : Pos} {wi : TI} {g : TG} {tt : TT} {te : TE} {Qf : Value → Shared → Prop} {use : Option (Value → Sem Unit)}
    (hc : X.calm = true) (hN : X.N.Nodup) (I : Inv X pins σ H s) (hi : PI X tg iter wi) (ok : BlkOk X.N X.env.scope scope own)
    (hg : ∀ (s : Shared) (H : Hp) (C : Addr) (cl : List (Str × Addr)) (fp : List Addr), PG (X.blk s H scope (compEnvC scope cl C X.env) fp) tg g) (ht : ∀ (s : Shared) (H : Hp) (C : Addr) (cl : List (Str × Addr)) (fp : List Addr), PTs (X.blk s H scope (compEnvC scope cl C X.env) fp) ifs tt)
    (he : BlkD X scope fun Y => PE Y elt te)
    (hs : ∀ x, foldedSetIterable iter X.env x = pure x)
    (h : tLc wi g tt te (own.map (·.2)) σ H Q)
    (hRR : ∀ D C s' m H', Inv X pins σ H' s' → Q (.ref D) H' → s'.heap.Ns C m → FpOk X pins H' C → compPost (model X.prog X.w) X.A X.xe use Qf (.ref D) C (.ok .next) s') :
    wpAny (model X.prog X.w) X.A (comprehension (.ListComp elt [⟨tg, iter, ifs, 0⟩] scope pos) scope X.env pos' (newList []) false (eval iter X.env) use) Qf X.xe s := by
  have hfree : ∀ y ∈ scope.names, y.2 = .free → ∃ c, X.env.cells.lookup y.1 = some c := fun y hy e => by
    rcases ok.free y hy e with k | k
    · exact I.ok.has _ (.inl k)
    · exact I.ok.has _ (.inr k)
  refine wpAny_comprehension_free (use := use) rfl hs (closure_ok hfree) ok.kind (fun y hy e => by rw [ok.uniq y hy, e])
    (thn (hi.run pins s σ H _ I h) fun xv s1 hx => thn hx fun itv s2 h2 => ?_)
  obtain ⟨it, fp, tn, J, H2, e, I2, T, st2, f2, q⟩ := h2
  subst e
  refine wpAny_newObj_type (newEnv_comp ?_) (by show 0 ≤ sizeLine; decide)
  generalize hD : s2.heap.objs.size = D
  have hDn : H2 D = none := I2.hok.fresh (Nat.le_of_eq hD)
  obtain ⟨W, ⟨m0, w0⟩, turn⟩ := q D hDn
  generalize hs3 : ({ s2 with heap := s2.heap.push { cls := .type "list", data := .seq ([] : List Value).toArray } } : Shared) = s3
  have I3 : Inv X pins σ (upd H2 D (.lst [])) s3 := by
    rw [← hs3]
    refine I2.laid (t' := s2.toks) (fun b o e => Heap.get?_push_of_some _ e) (Nat.le_of_eq hD) ⟨Nat.zero_le _, [], 0, .nil, ?_⟩
    rw [← hD]
    exact Heap.get?_push_size _ rfl
  have h3 : s3.heap = s2.heap.push { cls := .type "list", data := .seq ([] : List Value).toArray } := by rw [← hs3]
  have f3 : ∀ b ∈ fp, FpOk X pins (upd H2 D (.lst [])) b ∧ b < s3.heap.objs.size := fun b hb => by
    have hlt : b < s2.heap.objs.size := by
      obtain ⟨o, e, _⟩ := T.obj _ _ st2 b hb
      exact Heap.lt_size e
    refine ⟨⟨?_, (f2 b hb).2⟩, by rw [h3, Heap.size_push]; exact Nat.lt_succ_of_lt hlt⟩
    rw [upd_ne (by rw [← hD]; exact Nat.ne_of_lt hlt)]
    exact (f2 b hb).1
  have st3 : tn 0 s3.heap := T.keep _ _ _ st2 fun b _ o e => by rw [h3]; exact Heap.get?_push_of_some _ e
  have I4 := block_start I3 ok hN f3
  have pg := hg s3 (upd H2 D (.lst [])) s3.heap.objs.size (cellsFrom (s3.heap.objs.size + 1) scope.names (cloFrom X.env.cells scope.names [])) fp
  have pt := ht s3 (upd H2 D (.lst [])) s3.heap.objs.size (cellsFrom (s3.heap.objs.size + 1) scope.names (cloFrom X.env.cells scope.names [])) fp
  have pe := he s3 (upd H2 D (.lst [])) fp I.ok
  show codeAny _ _ (.compStart (.ListComp elt [⟨tg, iter, ifs, 0⟩] scope pos) 0 (.ref it) (.ref D) (compEnvC scope (cellsFrom (s3.heap.objs.size + 1) scope.names (cloFrom X.env.cells scope.names [])) s3.heap.objs.size X.env)) (compPost (model X.prog X.w) X.A X.xe use Qf (.ref D) s3.heap.objs.size) { s3 with heap := pushCells (s3.heap.push { cls := .type "dict", data := .dict #[] }) scope.names }
  have nfp : ∀ b ∈ fp, (upd H2 D (.lst [])) b = none := fun b hb => (f3 b hb).1.1
  generalize hce : compEnvC scope (cellsFrom (s3.heap.objs.size + 1) scope.names (cloFrom X.env.cells scope.names [])) s3.heap.objs.size X.env = ce at I4 pg pt pe ⊢
  have cL : ce.locals = s3.heap.objs.size := by subst hce; rfl
  generalize hH3 : upd H2 D (.lst []) = H3 at I3 I4 pg pt pe w0 nfp f3
  generalize hs4 : ({ s3 with heap := pushCells (s3.heap.push { cls := .type "dict", data := .dict #[] }) scope.names } : Shared) = s4 at I4 ⊢
  have st4 : tn 0 s4.heap := T.keep _ _ _ st3 fun b _ o e => by rw [← hs4]; exact pushCells_keeps _ _ _ _ (Heap.get?_push_of_some _ e)
  have stat : ∀ {σ' : L2.St} {H' : Hp} {s' : Shared}, Inv (X.blk s3 H3 scope ce fp) [] σ' H' s' → (∀ b ∈ fp, H' b = none) → ∀ b ∈ fp, FpOk (X.blk s3 H3 scope ce fp) [] H' b := fun {σ' H' s'} I' hn b hb =>
    ⟨hn b hb, (I'.ok.exf b hb).1, I'.ok.exfs b hb, .inl hb, fun x c e => (I'.ok.exf b hb).2 x c e, fun p hp => absurd (show p ∈ ([] : List (Addr × Obj)) ++ [] from hp) (by simp)⟩
  refine codeAny_compStart_list ?loop (T.self X.A 0 _ _ _ st4 ?loop)
  refine compLoop_any (fun n s' => ∃ i H', Inv (X.blk s3 H3 scope ce fp) [] (wipe σ (own.map (·.2))) H' s' ∧ tn i s'.heap ∧ (∀ b ∈ fp, H' b = none) ∧ W i n H') ?_ m0 ⟨0, H3, I4, st4, nfp, w0⟩
  rintro n s5 ⟨i, H5, I5, st5, n5, w5⟩
  rcases turn i n H5 w5 with ⟨stop, qq⟩ | ⟨go, Nx, hNx, step⟩
  · refine thnF (T.done (X.blk s3 H3 scope ce fp) rfl rfl rfl hc i [] s5 _ H5 (fun _ _ => False) I5 (stat I5 n5) st5 stop) fun r s6 ⟨hr, I6⟩ => ?_
    subst hr
    have I7 : Inv X pins σ H5 s6 := I3.call' (ch := fp) I6.os I6.base I6.hok I6.bare fun b hb => ⟨(f3 b hb).1.2.2.2.1, (f3 b hb).1.2.1, (f3 b hb).1.2.2.2.2.1, (f3 b hb).1.2.2.2.2.2⟩
    have nC : H5 s3.heap.objs.size = none := by
      have z : H5 ce.locals = none := I6.free
      rw [cL] at z
      exact z
    obtain ⟨m, hn, _⟩ := I6.loc
    have hn : s6.heap.Ns ce.locals m := hn
    rw [cL] at hn
    exact hRR D s3.heap.objs.size s6 m H5 I7 qq hn (I3.fpOk (Nat.le_refl _) nC)
  · refine thnF (T.item (X.blk s3 H3 scope ce fp) rfl rfl rfl hc i [] s5 _ H5 (fun _ _ => False) I5 (stat I5 n5) st5 go) fun r s6 ⟨u, hr, h6⟩ => ?_
    subst hr
    refine thnF h6 fun _ s7 ⟨x, H7, I7, r7, y7, st7, n7⟩ => ?_
    have I7' := I7.pinned (stat I7 n7) (T.obj _ _ st7)
    refine thnF (pg.run _ s7 _ H7 x u _ I7' r7 (step x H7 y7)) fun _ s8 ⟨σ8, H8, I8, hw8, q8⟩ => ?_
    refine thnF (pt.run _ s8 σ8 H8 _ I8 q8) fun b s9 ⟨H9, I9, q9⟩ => ?_
    have fin : ∀ {s' : Shared} {H' : Hp}, Inv (X.blk s3 H3 scope ce fp) ([] ++ pinsAt fp s7.heap) σ8 H' s' → Nx H' → ∃ m, m < n ∧ ∃ i H', Inv (X.blk s3 H3 scope ce fp) [] (wipe σ (own.map (·.2))) H' s' ∧ tn i s'.heap ∧ (∀ b ∈ fp, H' b = none) ∧ W i m H' := fun {s' H'} I' nx => by
      obtain ⟨m', hm, w'⟩ := hNx H' nx
      have pin' : ∀ b ∈ fp, ∀ o, s7.heap.get? b = some o → s'.heap.get? b = some o ∧ H' b = none := fun b hb o e =>
        let z := I'.pin (b, o) (List.mem_append_right _ (List.mem_append_right _ (mem_pinsAt hb e)))
        ⟨z.1, z.2.1⟩
      have hl : (wipe σ (own.map (·.2))).length = σ8.length := by rw [← hw8, wipe_length]
      refine ⟨m', hm, i + 1, H', (I'.unpinned (pins := [])).weak hl (fun j v e => ?_), T.keep _ _ _ st7 fun b hb o e => (pin' b hb o e).1, fun b hb => ?_, w'⟩
      · rw [← hw8] at e
        exact (wipe_some e).1
      · obtain ⟨o, e, _⟩ := T.obj _ _ st7 b hb
        exact (pin' b hb o e).2
    cases b with
    | false =>
      simp only [Bool.false_eq_true, if_false] at q9 ⊢
      exact fin I9 q9
    | true =>
      simp only [if_true] at q9 ⊢
      refine thnF (pe.run _ s9 σ8 H9 _ I9 q9) fun z s10 ⟨yv, H10, I10, r10, acc, hD10, hz10, nx⟩ => ?_
      exact app_ok (X := X.blk s3 H3 scope ce fp) I10 hD10 hz10 r10 fun s11 I11 => fin I11 nx
end
section
variable [Tb] {X : Cx} {W : WX} {k : Nat}
theorem Bd.blk {own : List (Str × Nat)} {scope : Scope} (B : Bd X W k) (okX : X.Ok) (ok : BlkOk X.N X.env.scope scope own) {s : Shared} {H : Hp} {fp : List Addr} :
    Bd (X.blk s H scope (compEnvC scope (cellsFrom (s.heap.objs.size + 1) scope.names (cloFrom X.env.cells scope.names [])) s.heap.objs.size X.env) fp) WF k := by
  refine ⟨B.toBe.blk, PassesOwn.never, fun okB x c e => ?_⟩
  rcases cellsFrom_ge (show (x, c) ∈ cellsFrom (s.heap.objs.size + 1) scope.names (cloFrom X.env.cells scope.names []) from PySem.mem_of_lookup e) with h | hg
  · rcases cloFrom_mem h with h | ⟨h1, h2⟩
    · cases h
    · obtain ⟨c1, hc⟩ : ∃ c, X.env.cells.lookup x = some c := by
        rcases ok.free _ h1 rfl with z | z
        · exact okX.has _ (.inl z)
        · exact okX.has _ (.inr z)
      have hcc : c = c1 := by rw [h2, hc]; rfl
      rw [hcc]
      exact B.cb okX x c1 hc
  · refine ⟨Heap.get?_none_of_le (Nat.le_trans okB.bsz (Nat.le_of_succ_le hg)), fun hm => ?_⟩
    have hm : c ∈ frs X.stack := hm
    obtain ⟨_, o, ho, _⟩ := okB.funs.mem hm
    exact absurd (Nat.lt_of_lt_of_le (Heap.lt_size ho) (Nat.le_of_succ_le hg)) (Nat.lt_irrefl _)
theorem Be.toS {m k : Nat} (B : Be X W m) (h : m = k + 1) : Be X W (k + 1) := h ▸ B
theorem LmOk.blk (L : LmOk X) {scope : Scope} {s : Shared} {H : Hp} {C : Addr} {cl : List (Str × Addr)} {fp : List Addr} : LmOk (X.blk s H scope (compEnvC scope cl C X.env) fp) := L
variable {ci : CI} {g : CG} {t : CT} {ce : CE}
theorem ev_lcB {k : Nat} {elt tg iter : Expr} {ifs : List Expr} {scope : Scope} {ownp : List (Str × Nat)} {pos : Pos} (B : Be X W k) (hi : EvI X W tg iter ci) (ok : BlkOk X.N X.env.scope scope ownp)
    (hg : BlkC X scope fun Y => EvTg Y (ownp.map (·.2)) tg g) (ht : BlkC X scope fun Y => PTs Y ifs (rdT (kf X) WF t))
    (he : BlkD X scope fun Y => EvE Y WF elt ce) (hs : ∀ x, foldedSetIterable iter X.env x = pure x := by intro _; rfl) :
    EvE X W (.ListComp elt [⟨tg, iter, ifs, 0⟩] scope pos) (lcC (ownp.map (·.2)) ci g t ce) := by
  refine ⟨fun pins s σ H Q I ⟨ι, vs, M, hr, o⟩ => ?_⟩
  have h := lc_read (fun _ _ _ h => h) hr o fun _ _ _ _ h q => rd.imp h q
  rw [eval_ListComp]
  refine lcB_core B.calm B.nd I hi ok hg ht he hs h fun D C s' m H' I' q hn f => ⟨m, hn, fun h'' sb => ?_⟩
  obtain ⟨f0, f1, f2, f3, f4, f5⟩ := f
  exact ⟨.ref D, H', I'.turned (t' := s'.toks) (fun b o hb e => (sb.2 b hb).trans e) f0 f1 f3 f4 f5, rfl, q⟩
end
end AM
end

section
set_option Elab.async false
set_option linter.all false
set_option autoImplicit false
set_option maxRecDepth 100000
set_option maxHeartbeats 4000000
/-! AM 36: sets of whole numbers, sorted, counted. -/
namespace AM
open PySem PySem.Spec L2 PyProof.Rows
section
variable {P : Program} {w : World} {A : Around} {E : Value → Shared → Prop} {s : Shared} {a : Addr}
set_option maxRecDepth 100000 in
set_option maxHeartbeats 3200000 in
theorem call_set_lstI {l : Addr} {items : Array Value} (ns : List Int) {Q : Value → Shared → Prop} (hh : A.handled = none) (hl : s.heap.IsList l items) (hit : IntsAre items.toList ns) (hb : ns.length + 1 < scanBound)
    (h : ∀ (h' : Heap) (tk c : Nat), SetR w h' s.heap.objs.size (fun j => decide (j ∈ ns)) c → c ≤ ns.length → (∀ b o, s.heap.get? b = some o → h'.get? b = some o) → Q (.ref s.heap.objs.size) { s with heap := h', toks := tk }) :
    wpAny (model P w) A (call (.type "set") [.ref l]) Q E s := by
  have hisz : items.size = ns.length := by
    have q := IntsAre.length hit
    rw [Array.length_toList] at q
    exact q
  obtain ⟨c, tl, hmro⟩ := F.called_set.mro
  have hmade := F.called_set.made
  have hsub := F.called_set.sub
  refine wpAny_call (codeAny_of_tree ?_)
  show wpAny _ _ (callAny (.type "set") _) _ _ _
  refine wpAny_pure ⟨Code.quiet_builtin _ (by decide +kernel), codeAny_builtin F.entry_type_call ?_⟩
  rw [Around.under_plain (weight_type_call_type "set" [.ref l] []) rfl]
  have h1 := F.called_set.notType
  have h2 := F.called_set.canCreate
  have hct := F.typeCall_set_1 (.ref l)
  repeat (any_goals (first | assumption | wp_step))

  refine codeAny_mono (code_set_led1 (.ref l) (E := E) (Q₁ := fun obj s₁ => obj = .ref s.heap.objs.size ∧ s₁ = { s with heap := s.heap.push { cls := .type "set", dict := none, data := .set #[] 0 (.fresh 0 0 (!w.params.followText "set-order")) } }) ⟨rfl, rfl⟩) fun r s₁ hr => ?_
  cases r with
  | error e => exact hr
  | ok fl =>
    cases fl with
    | ret obj =>
      obtain ⟨rfl, rfl⟩ := hr
      have hS : (s.heap.push { cls := .type "set", dict := none, data := .set #[] 0 (.fresh 0 0 (!w.params.followText "set-order")) }).get? s.heap.objs.size = some { cls := .type "set", dict := none, data := .set #[] 0 (.fresh 0 0 (!w.params.followText "set-order")) } := Heap.get?_push_size _ rfl
      have hT : Shared.TypeIs { s with heap := s.heap.push { cls := .type "set", dict := none, data := .set #[] 0 (.fresh 0 0 (!w.params.followText "set-order")) } } (.ref s.heap.objs.size) "set" := ⟨_, hS, rfl⟩
      have hli := F.called_set.init.lookup
      have hbi := F.called_set.init.bind (.ref s.heap.objs.size)
      repeat (any_goals (first | assumption | wp_step))

      refine codeAny_mono (codeAny_call_builtin (R := wants (fun r s₂ => r = .none ∧ ∃ h' tk c, s₂ = { s with heap := h', toks := tk } ∧ SetR w h' s.heap.objs.size (fun j => decide (j ∈ ns)) c ∧ c ≤ ns.length ∧
          (∀ b o, s.heap.get? b = some o → h'.get? b = some o)) E) F.called_set.init.plain F.entry_set_init (check_set_init_1 hT ?_)) fun r₂ s₂ hr₂ => ?_
      · obtain ⟨ol, hol, hcl, nl, hdl⟩ := hl
        obtain ⟨ocls, odict, odata, oslots⟩ := ol
        simp only at hcl hdl
        subst hcl; subst hdl
        have hol' : (s.heap.push { cls := .type "set", dict := none, data := .set #[] 0 (.fresh 0 0 (!w.params.followText "set-order")) }).get? l = some { cls := .type "list", dict := odict, data := .seq items nl, slots := oslots } := Heap.get?_push_of_some _ hol
        have hsls := F.sub_list_set
        have hslf := F.sub_list_frozenset
        have hne : (Value.type "list" == Value.type "dict") = false := by decide
        have hl1 : (s.heap.push { cls := .type "set", dict := none, data := .set #[] 0 (.fresh 0 0 (!w.params.followText "set-order")) }).IsList l items := ⟨_, hol', rfl, nl, rfl⟩
        unfold Builtin.«set.__init__» noKeywords Builtin.Frozenset.updateFrom
        generalize hPI : pyIter = PI
        wp_walk
        subst hPI

        refine wpAny_pyIter_list hl1 ?_
        refine wpAny_bind (wpAny_runValue ?_)
        have hlS : l < s.heap.objs.size := Heap.lt_size hol
        have hh3 : A.in1.in1.in1.handled = none := by simp [hh]
        have hz1 : (s.heap.push { cls := .type "set", dict := none, data := .set #[] 0 (.fresh 0 0 (!w.params.followText "set-order")) }).objs.size = s.heap.objs.size + 1 := Heap.size_push ..
        have hneI : l ≠ (s.heap.push { cls := .type "set", dict := none, data := .set #[] 0 (.fresh 0 0 (!w.params.followText "set-order")) }).objs.size := by
          rw [Heap.size_push]; exact Nat.ne_of_lt (Nat.lt_succ_of_lt hlS)
        have hSf : s.heap.objs.size ∉ [(s.heap.push { cls := .type "set", dict := none, data := .set #[] 0 (.fresh 0 0 (!w.params.followText "set-order")) }).objs.size, l] := by
          rw [Heap.size_push]; simp only [List.mem_cons, List.mem_singleton, List.not_mem_nil, or_false, not_or]
          exact ⟨Nat.ne_of_lt (Nat.lt_succ_self _), Nat.ne_of_gt hlS⟩
        have hval : ∀ (i : Nat) (v : Value), items[i]? = some v → ∃ k t, ns[i]? = some k ∧ v = .int k t := fun i v hv => by
          have hi : i < ns.length := by rw [← hisz]; exact (Array.getElem?_eq_some_iff.mp hv).1
          obtain ⟨t, e⟩ := PyProof.Rows.IntsAre.int_at hit i v (by rw [Array.getElem?_toList]; exact hv)
          refine ⟨ns[i], t, List.getElem?_eq_getElem hi, ?_⟩
          rw [e, List.getD_eq_getElem?_getD, List.getElem?_eq_getElem hi] <;> rfl
        refine set_update_ints ((Walks.list hh3 _ l hneI items).toS) s.heap.objs.size
          hSf ns hisz hb hval (items.size - 0) 0 _ (by omega) (Nat.zero_le _)
          ⟨⟨_, Heap.get?_push_size _ rfl, rfl, rfl⟩, (hl1.push _)⟩ ?hS0 ?hR
        case hS0 =>
          have hget : ((s.heap.push { cls := .type "set", dict := none, data := .set #[] 0 (.fresh 0 0 (!w.params.followText "set-order")) }).push { cls := .type "list_iterator", data := .fields #[.ref l, .int 0 0] }).get? s.heap.objs.size
              = some { cls := .type "set", dict := none, data := .set #[] 0 (.fresh 0 0 (!w.params.followText "set-order")) } := Heap.get?_push_of_some _ hS
          exact ⟨0, Nat.le_refl 0, setR_new_at hget⟩
        case hR =>
          intro s' c' hm hc' hS'
          obtain ⟨h', g2, d', tk', os'⟩ := s'
          have eg : g2 = s.gens := hm.gens
          have ed : d' = s.drawn := hm.drawn
          have eo : os' = s.os := hm.os
          subst eg; subst ed; subst eo
          show wpAny _ _ _ _ _ _
          refine wpAny_pure ?_
          show wpAny _ _ (ret Value.none) _ _ _
          rw [hisz] at hc'
          refine wpAny_pure ⟨rfl, h', tk', c', rfl, hS', hc', fun b o e => ?_⟩
          have hb0 : b < s.heap.objs.size := Heap.lt_size e
          have hb1 : b ≠ s.heap.objs.size := Nat.ne_of_lt hb0
          have hb2 : b ≠ (s.heap.push { cls := .type "set", dict := none, data := .set #[] 0 (.fresh 0 0 (!w.params.followText "set-order")) }).objs.size := by
            rw [Heap.size_push]; exact Nat.ne_of_lt (Nat.lt_succ_of_lt hb0)
          exact hm.heap b o (by simp only [List.mem_cons, List.mem_singleton, List.not_mem_nil, or_false, not_or]; exact ⟨hb1, hb2⟩) (Heap.get?_push_of_some _ (Heap.get?_push_of_some _ e))

      · cases r₂ with
        | error e => exact hr₂
        | ok fl₂ =>
          cases fl₂ with
          | ret r =>
            obtain ⟨rfl, h', tk, c', rfl, hS', hc', hk'⟩ := hr₂
            repeat (any_goals (first | assumption | wp_step))
            exact h _ _ _ hS' hc' hk'
          | _ => exact hr₂.elim
    | _ => exact hr.elim

end
end AM
end

section
set_option Elab.async false
set_option linter.all false
set_option autoImplicit false
set_option maxRecDepth 100000
set_option maxHeartbeats 4000000
/-! AM 37: sorted(set(..)), len(set(..)). -/
namespace AM
open PySem PySem.Spec L2 PyProof.Rows
/-! ### a list's members, ascending, each once -/
def insI (k : Int) : List Int → List Int
  | [] => [k]
  | x :: xs => if k < x then k :: x :: xs else if k = x then x :: xs else x :: insI k xs
def ssI (ns : List Int) : List Int := ns.foldr insI []
theorem insI_mem {k y : Int} : ∀ {xs : List Int}, y ∈ insI k xs ↔ y = k ∨ y ∈ xs
  | [] => by simp [insI]
  | x :: xs => by
    unfold insI
    split
    · simp
    · split
      · rename_i h
        subst h
        simp
      · rw [List.mem_cons, insI_mem, List.mem_cons]
        constructor
        · rintro (h | h | h)
          · exact .inr (.inl h)
          · exact .inl h
          · exact .inr (.inr h)
        · rintro (h | h | h)
          · exact .inr (.inl h)
          · exact .inl h
          · exact .inr (.inr h)
theorem insI_lt {k : Int} : ∀ {xs : List Int}, xs.Pairwise (· < ·) → (insI k xs).Pairwise (· < ·)
  | [], _ => by simp [insI]
  | x :: xs, h => by
    obtain ⟨h1, h2⟩ := List.pairwise_cons.mp h
    unfold insI
    split
    · rename_i q
      refine List.pairwise_cons.mpr ⟨fun y hy => ?_, h⟩
      rcases List.mem_cons.mp hy with e | hy
      · omega
      · have := h1 y hy; omega
    · split
      · exact h
      · refine List.pairwise_cons.mpr ⟨fun y hy => ?_, insI_lt h2⟩
        rcases insI_mem.mp hy with e | hy
        · omega
        · exact h1 y hy
theorem ssI_lt (ns : List Int) : (ssI ns).Pairwise (· < ·) := by
  unfold ssI
  induction ns with
  | nil => exact .nil
  | cons n ns ih => exact insI_lt ih
theorem ssI_mem {ns : List Int} {y : Int} : y ∈ ssI ns ↔ y ∈ ns := by
  unfold ssI
  induction ns with
  | nil => exact Iff.rfl
  | cons n ns ih => rw [List.foldr_cons, insI_mem, ih, List.mem_cons]
theorem lt_uniq : ∀ {xs ys : List Int}, xs.Pairwise (· < ·) → ys.Pairwise (· < ·) → (∀ k, k ∈ xs ↔ k ∈ ys) → xs = ys
  | [], [], _, _, _ => rfl
  | [], y :: ys, _, _, h => absurd ((h y).mpr (List.mem_cons_self ..)) (by simp)
  | x :: xs, [], _, _, h => absurd ((h x).mp (List.mem_cons_self ..)) (by simp)
  | x :: xs, y :: ys, h1, h2, h => by
    obtain ⟨a1, a2⟩ := List.pairwise_cons.mp h1
    obtain ⟨b1, b2⟩ := List.pairwise_cons.mp h2
    have e : x = y := by
      rcases List.mem_cons.mp ((h x).mp (List.mem_cons_self ..)) with e | m1
      · exact e
      · rcases List.mem_cons.mp ((h y).mpr (List.mem_cons_self ..)) with e | m2
        · exact e.symm
        · have := b1 x m1
          have := a1 y m2
          omega
    subst e
    rw [lt_uniq a2 b2 fun k => ?_]
    constructor
    · intro m
      rcases List.mem_cons.mp ((h k).mp (List.mem_cons_of_mem _ m)) with e | m2
      · have := a1 k m; omega
      · exact m2
    · intro m
      rcases List.mem_cons.mp ((h k).mpr (List.mem_cons_of_mem _ m)) with e | m2
      · have := b1 k m; omega
      · exact m2
/-! ### the rules -/
theorem insI_len {k : Int} : ∀ {xs : List Int}, (insI k xs).length ≤ xs.length + 1
  | [] => by simp [insI]
  | x :: xs => by
    have := insI_len (k := k) (xs := xs)
    unfold insI
    split
    · simp
    · split
      · simp
      · simp only [List.length_cons]; omega
theorem ssI_len (ns : List Int) : (ssI ns).length ≤ ns.length := by
  unfold ssI
  induction ns with
  | nil => exact Nat.le_refl _
  | cons n ns ih =>
    have := insI_len (k := n) (xs := ns.foldr insI [])
    rw [List.foldr_cons, List.length_cons]
    omega
theorem setR_count {w : World} {h : Heap} {D : Addr} {ns : List Int} {c : Nat} (hS : SetR w h D (fun j => decide (j ∈ ns)) c) : c = (ssI ns).length := by
  obtain ⟨o, es, ep, t, ho, hex, hd, g, nd, hm, hb, hf, hn, hr, hl⟩ := hS
  have nd2 : (ssI ns).Nodup := (ssI_lt ns).imp fun h => by omega
  have pm : (es.toList.map keyOf).Perm (ssI ns) := by
    refine (List.perm_ext_iff_of_nodup nd nd2).mpr fun k => ?_
    rw [ssI_mem, ← hm k, decide_eq_true_eq]
  have := pm.length_eq
  rw [List.length_map, Array.length_toList, hn] at this
  exact this
def rSetI (K : PySem.W.Frag) (w : World) : List V → Hp → VK → Prop := fun xs H Q => ∃ (l : Addr) (ns : List Int), xs = [V.ref l] ∧ SqL K H l (ns.map V.int) ∧ ns.length + 1 < scanBound ∧
  ∀ (D : Addr), H D = none → Q (.ref D) (upd H D (SetO w D (fun j => decide (j ∈ ns)) (ssI ns).length))
theorem cr_setI {X : Cx} (hc : X.calm = true) : CallR X (.type "set") (rSetI X.K X.w) := by
  intro pins s σ H xs us Q I r h
  obtain ⟨l, ns, rfl, hq, hb, q⟩ := h
  rw [Vals.ref1 r]
  obtain ⟨its, ri, pl, hz⟩ := I.list hq
  refine call_set_lstI ns (I.ok.hd hc) pl.isList (by simpa using ri.ints) hb fun h' tk c hS hcl hk => ?_
  have hn : H s.heap.objs.size = none := I.hok.fresh (Nat.le_refl _)
  have ec := setR_count hS
  subst ec
  exact ⟨.ref s.heap.objs.size, _, I.laid (t' := tk) (h' := h') (fun b o e => hk b o e) (Nat.le_refl _) (setO_new hS), rfl, q _ hn⟩
/-- sorted(set(xs)), xs a list of whole numbers -/
def ssA (as : List AV) (M : AH) : R AV := match as with
  | [a] => match lstOf a M with
    | some xs => match intsOf xs with
      | some ns => if ns.length < 63 then newL ((ssI ns).map .int) M else .bad
      | none => .bad
    | none => .bad
  | _ => .bad
/-- len(set(xs)) -/
def lsA (as : List AV) (M : AH) : R AV := match as with
  | [a] => match lstOf a M with
    | some xs => match intsOf xs with
      | some ns => if ns.length < 63 then .ok (.int (ssI ns).length) M else .bad
      | none => .bad
    | none => .bad
  | _ => .bad
theorem vrs_ints {κ : Cfg} {ι : List Addr} {H : Hp} : ∀ ns : List Int, VRs κ ι H (ns.map .int) (ns.map V.int)
  | [] => by rw [List.map_nil, List.map_nil, VRs]
  | n :: ns => by
    rw [List.map_cons, List.map_cons, VRs]
    exact ⟨_, _, rfl, by rw [VR], vrs_ints ns⟩
section
variable [Tb] {X : Cx} {W : WX} {e : Expr} {p p2 q pos : Pos} {r : CA}
theorem ev_ss (hc : X.calm = true) (hg1 : Gl X "sorted") (hm1 : X.mg "sorted" = none) (hg2 : Gl X "set") (hm2 : X.mg "set" = none) (ha : EvA X W [e] r)
    (he : starEach [e] X.env = (false, eval e X.env) :: starEach [] X.env := by rfl) :
    EvE X W (.Call (.Name "sorted" p) [.Call (.Name "set" p2) [e] [] q] [] pos) (argsC ssA r) := by
  have p1 := pe_callTy (pos := q) (p := p2) (cr_setI hc) hg2 hm2 boot_set ha (by decide +kernel) (by decide +kernel) he rfl
  refine PE.imp (pe_callB (id := "sorted") (p := p) (pos := pos) (cr_sortedSet hc) hg1 hm1 (by decide +kernel) (pa_cons p1 pa_nil) (by decide +kernel) (by decide +kernel) rfl rfl) fun σ H Q ⟨ι, vs, M, hr, o⟩ => ?_
  show rdA (kf X) W r σ H fun ws H1 => rSetI X.K X.w ws H1 fun x H2 => rSortedSet X.w [x] H2 Q
  refine Out.run hr o fun ι1 as M1 ws H1 h1 h2 h3 h4 h5 => ?_
  unfold ssA at h5
  split at h5
  case h_2 => exact h5.elim
  rename_i a
  split at h5
  case h_2 => exact h5.elim
  rename_i xs ex
  split at h5
  case h_2 => exact h5.elim
  rename_i ns en
  split at h5
  case isFalse => exact h5.elim
  rename_i hl
  obtain ⟨v, vs', rfl, g1, g2⟩ := h4.cons_inv
  obtain rfl := g2.nil_inv
  obtain ⟨l, zs, rfl, hq, hz⟩ := lst_rel h3.rep ex g1
  obtain rfl := VRs.ints en hz
  refine ⟨l, ns, rfl, hq, by unfold scanBound; omega, fun D hD => ?_⟩
  have lle := ssI_len ns
  refine ⟨D, _, _, rfl, upd_same, by omega, fun ns' p hs hm hlen hp => ?_⟩
  have e1 : ns' = ssI ns := lt_uniq hs (ssI_lt ns) fun k => by rw [hm, ssI_mem, decide_eq_true_eq]
  have kp := Keep.new (o := SetO X.w D (fun j => decide (j ∈ ns)) (ssI ns).length) hD
  have hr2 : Rel (kf X) ι1 vs M1 σ (upd H1 D (SetO X.w D (fun j => decide (j ∈ ns)) (ssI ns).length)) := ⟨h3.sl.mono (List.prefix_refl _) kp, h3.rep.other hD⟩
  have o2 : Out (kf X) W (VR (kf X)) ι1 vs σ (upd H1 D (SetO X.w D (fun j => decide (j ∈ ns)) (ssI ns).length)) Q (newL ((ssI ns).map .int) M1) := by
    revert h5
    unfold newL
    split
    · exact fun h5 ι' H' b a1 a2 a3 a4 => h5 ι' H' b a1 (kp.trans a2) a3 a4
    · exact fun h5 => h5
  rw [e1]
  exact (Out.newL hr2 (vrs_ints _) o2).2 p hp
def rLenSet (w : World) : List V → Hp → VK → Prop := fun vs H Q => ∃ (a : Addr) (S : Int → Bool) (n : Nat), vs = [V.ref a] ∧ H a = some (SetO w a S n) ∧ n < 64 ∧ Q (.int n) H
theorem cr_lenSet {X : Cx} : CallR X (.builtin "len") (rLenSet X.w) := by
  intro pins s σ H xs us Q I r h
  obtain ⟨a, S, n, rfl, ha, hb, q⟩ := h
  rw [Vals.ref1 r]
  have R := setO_get I ha
  obtain ⟨o, es, ep, t, ho, hex, hd, _, _, _, _, hf, hn, _⟩ := R
  exact call_len_set ho hex hd hf (by rw [hn]; omega) ⟨.int n, H, (I.tok _).tok _, ⟨_, by rw [hn]⟩, q⟩
theorem ev_ls (hc : X.calm = true) (hg1 : Gl X "len") (hm1 : X.mg "len" = none) (hg2 : Gl X "set") (hm2 : X.mg "set" = none) (ha : EvA X W [e] r)
    (he : starEach [e] X.env = (false, eval e X.env) :: starEach [] X.env := by rfl) :
    EvE X W (.Call (.Name "len" p) [.Call (.Name "set" p2) [e] [] q] [] pos) (argsC lsA r) := by
  have p1 := pe_callTy (pos := q) (p := p2) (cr_setI hc) hg2 hm2 boot_set ha (by decide +kernel) (by decide +kernel) he rfl
  refine PE.imp (pe_callB (id := "len") (p := p) (pos := pos) cr_lenSet hg1 hm1 (by decide +kernel) (pa_cons p1 pa_nil) (by decide +kernel) (by decide +kernel) rfl rfl) fun σ H Q ⟨ι, vs, M, hr, o⟩ => ?_
  show rdA (kf X) W r σ H fun ws H1 => rSetI X.K X.w ws H1 fun x H2 => rLenSet X.w [x] H2 Q
  refine Out.run hr o fun ι1 as M1 ws H1 h1 h2 h3 h4 h5 => ?_
  unfold lsA at h5
  split at h5
  case h_2 => exact h5.elim
  rename_i a
  split at h5
  case h_2 => exact h5.elim
  rename_i xs ex
  split at h5
  case h_2 => exact h5.elim
  rename_i ns en
  split at h5
  case isFalse => exact h5.elim
  rename_i hl
  obtain ⟨v, vs', rfl, g1, g2⟩ := h4.cons_inv
  obtain rfl := g2.nil_inv
  obtain ⟨l, zs, rfl, hq, hz⟩ := lst_rel h3.rep ex g1
  obtain rfl := VRs.ints en hz
  refine ⟨l, ns, rfl, hq, by unfold scanBound; omega, fun D hD => ?_⟩
  have lle := ssI_len ns
  have kp := Keep.new (o := SetO X.w D (fun j => decide (j ∈ ns)) (ssI ns).length) hD
  refine ⟨D, _, _, rfl, upd_same, by omega, ?_⟩
  exact h5 ι1 _ _ (List.prefix_refl _) kp ⟨h3.sl.mono (List.prefix_refl _) kp, h3.rep.other hD⟩ (by rw [VR])
end
end AM
end

section
set_option Elab.async false
set_option linter.all false
set_option autoImplicit false
set_option maxRecDepth 100000
set_option maxHeartbeats 4000000
/-! AM 38: dict displays, keys whole numbers and texts, unlike. -/
namespace AM
open PySem PySem.Spec L2

abbrev PRs (κ : Cfg) (ι : List Addr) (H : Hp) : List (AV × AV) → List (V × V) → Prop := Paired fun p q => VR κ ι H p.1 q.1 ∧ VR κ ι H p.2 q.2
def pairsK : List (CE × CE) → List (AV × AV) → (List (AV × AV) → AH → R AV) → Loc → AH → R AV
  | [], acc, k, _, M => k acc M
  | (a, b) :: r, acc, k, vs, M => (a vs M).bind fun x M1 => (b vs M1).bind fun y M2 => pairsK r (acc ++ [(x, y)]) k vs M2
def flK : AV → Option Key
  | .int i => some (.inl i)
  | .str s => some (.inr s)
  | _ => none
def flKs : List (AV × AV) → Option (List Key)
  | [] => some []
  | p :: r => match flK p.1, flKs r with
    | some k, some ks => some (k :: ks)
    | _, _ => none
def isE (M : AH) (d : Nat) : Bool := match M[d]? with
  | some (.dct []) => true
  | _ => false
/-- {k: v, ..} -/
def dispC (l : List (CE × CE)) : CE := fun vs M => pairsK l [] (fun ps M1 => match flKs ps with
  | some ks => if isE M1 M.length = true ∧ ps.length ≤ 15 ∧ ks.Nodup then .ok (.ref M.length) (M1.set M.length (.dct ps)) else .bad
  | none => .bad) vs (M ++ [.dct []])
section
variable [Tb] {X : Cx} {W : WX}
theorem PRs.mono {κ : Cfg} {ι ι' : List Addr} {H H' : Hp} (hι : ι <+: ι') (k : Keep H H') {ps : List (AV × AV)} {qs : List (V × V)} (h : PRs κ ι H ps qs) : PRs κ ι' H' ps qs := Paired.mapP h fun p q r => ⟨r.1.mono hι k, r.2.mono hι k⟩
theorem PRs.snoc {κ : Cfg} {ι : List Addr} {H : Hp} {ps : List (AV × AV)} {qs : List (V × V)} {x y : AV} {u v : V} (h : PRs κ ι H ps qs) (h1 : VR κ ι H x u) (h2 : VR κ ι H y v) : PRs κ ι H (ps ++ [(x, y)]) (qs ++ [(u, v)]) := by
  induction h with
  | nil => exact .cons ⟨h1, h2⟩ .nil
  | cons r _ ih => exact .cons r ih
theorem pairs_read {k : List (AV × AV) → AH → R AV} : ∀ (l : List (CE × CE)) {acc : List (AV × AV)} {ι : List Addr} {vs : Loc} {M : AH} {σ : L2.St} {H : Hp} {Q : VK} {qs : List (V × V)}, Rel (kf X) ι vs M σ H → PRs (kf X) ι H acc qs → Out (kf X) W (VR (kf X)) ι vs σ H Q (pairsK l acc k vs M) →
    tPairs (l.map fun p => (rdE (kf X) W p.1, rdE (kf X) W p.2)) σ H fun ps H' => ∃ (ι' : List Addr) (M' : AH) (acc' : List (AV × AV)), ι <+: ι' ∧ Keep H H' ∧ Rel (kf X) ι' vs M' σ H' ∧ PRs (kf X) ι' H' acc' (qs ++ ps) ∧ Out (kf X) W (VR (kf X)) ι' vs σ H' Q (k acc' M')
  | [], acc, ι, vs, M, σ, H, Q, qs, hr, hp, o => ⟨ι, M, acc, List.prefix_refl _, Keep.refl _, hr, by rw [List.append_nil]; exact hp, o⟩
  | (a, b) :: r, acc, ι, vs, M, σ, H, Q, qs, hr, hp, o => by
    show rdE (kf X) W a σ H fun x H1 => rdE (kf X) W b σ H1 fun y H2 => tPairs (r.map fun p => (rdE (kf X) W p.1, rdE (kf X) W p.2)) σ H2 fun ps H3 => _
    refine Out.run hr o fun ι1 x M1 u H1 h1 h2 h3 h4 h5 => Out.run h3 h5 fun ι2 y M2 v H2 g1 g2 g3 g4 g5 => ?_
    have hp2 : PRs (kf X) ι2 H2 (acc ++ [(x, y)]) (qs ++ [(u, v)]) := ((hp.mono h1 h2).mono g1 g2).snoc (h4.mono g1 g2) g4
    have z := pairs_read r g3 hp2 g5
    have mono : ∀ {l : List (TE × TE)} {σ : L2.St} {H : Hp} {Q Q' : List (V × V) → Hp → Prop}, (∀ p ∈ l, ∀ σ H (Q Q' : VK), p.1 σ H Q → (∀ v H', Q v H' → Q' v H') → p.1 σ H Q') → (∀ p ∈ l, ∀ σ H (Q Q' : VK), p.2 σ H Q → (∀ v H', Q v H' → Q' v H') → p.2 σ H Q') → tPairs l σ H Q → (∀ ps H', Q ps H' → Q' ps H') → tPairs l σ H Q' := by
      intro l
      induction l with
      | nil => exact fun _ _ h k => k _ _ h
      | cons p l ih => exact fun m1 m2 h k => m1 p (List.mem_cons_self ..) _ _ _ _ h fun v H' h => m2 p (List.mem_cons_self ..) _ _ _ _ h fun v H' h => ih (fun p hp => m1 p (List.mem_cons_of_mem _ hp)) (fun p hp => m2 p (List.mem_cons_of_mem _ hp)) h fun ps H' q => k _ _ q
    refine mono (fun p hp σ H Q Q' h k => ?_) (fun p hp σ H Q Q' h k => ?_) z fun ps H' ⟨ι', M', acc', a1, a2, a3, a4, a5⟩ => ⟨ι', M', acc', (h1.trans g1).trans a1, (h2.trans g2).trans a2, a3, by rw [List.append_assoc] at a4; exact a4, a5⟩
    · obtain ⟨c, _, rfl⟩ := List.mem_map.mp hp
      exact rd.imp h k
    · obtain ⟨c, _, rfl⟩ := List.mem_map.mp hp
      exact rd.imp h k
theorem tPairs_mono {σ : L2.St} : ∀ (l : List (CE × CE)) {H : Hp} {Q Q' : List (V × V) → Hp → Prop}, tPairs (l.map fun p => (rdE (kf X) W p.1, rdE (kf X) W p.2)) σ H Q → (∀ ps H', Q ps H' → Q' ps H') → tPairs (l.map fun p => (rdE (kf X) W p.1, rdE (kf X) W p.2)) σ H Q'
  | [], _, _, _, h, k => k _ _ h
  | (a, b) :: r, H, Q, Q', h, k => by
    have h : rdE (kf X) W a σ H fun x H1 => rdE (kf X) W b σ H1 fun y H2 => tPairs (r.map fun p => (rdE (kf X) W p.1, rdE (kf X) W p.2)) σ H2 fun ps H3 => Q ((x, y) :: ps) H3 := h
    exact rd.imp h fun x H1 h => rd.imp h fun y H2 h => tPairs_mono r h fun ps H3 q => k _ _ q
theorem merge_nd : ∀ (kvs acc : List (Key × V)), ((acc ++ kvs).map (·.1)).Nodup → mergeK acc kvs = acc ++ kvs
  | [], acc, _ => by rw [List.append_nil]; rfl
  | p :: r, acc, h => by
    have e : putK acc p.1 p.2 = acc ++ [p] := by
      unfold putK
      rw [if_neg]
      intro z
      obtain ⟨q, hq, e⟩ := List.any_eq_true.mp z
      rw [List.map_append, List.nodup_append] at h
      exact h.2.2 q.1 (List.mem_map.mpr ⟨q, hq, rfl⟩) p.1 (List.mem_map.mpr ⟨p, List.mem_cons_self .., rfl⟩) (of_decide_eq_true e)
    show mergeK (putK acc p.1 p.2) r = _
    rw [e, merge_nd r (acc ++ [p]) (by rw [List.append_assoc]; exact h), List.append_assoc]
    rfl
theorem flat_kvs {κ : Cfg} {ι : List Addr} {H : Hp} : ∀ {ps : List (AV × AV)} {qs : List (V × V)} {ks : List Key}, PRs κ ι H ps qs → flKs ps = some ks → ∃ kvs : List (Key × V), qs = kvs.map (fun kv => (kV kv.1, kv.2)) ∧ kvs.map (·.1) = ks ∧ DR κ ι H ps kvs
  | [], _, ks, h, e => by
    cases h
    cases e
    exact ⟨[], rfl, rfl, .nil⟩
  | (x, y) :: ps, _, ks, h, e => by
    cases h with
    | @cons _ b _ qs r t =>
      obtain ⟨u, v⟩ := b
      unfold flKs at e
      split at e
      case h_2 => cases e
      rename_i k ks' e1 e2
      cases e
      obtain ⟨kvs, q1, q2, q3⟩ := flat_kvs t e2
      obtain ⟨r1, r2⟩ := r
      cases x with
      | int i =>
        cases e1
        have r1 : VR κ ι H (.int i) u := r1
        rw [VR] at r1
        exact ⟨(.inl i, v) :: kvs, by rw [q1, r1]; rfl, by rw [List.map_cons, q2], .cons ⟨.int i, r2⟩ q3⟩
      | str i =>
        cases e1
        have r1 : VR κ ι H (.str i) u := r1
        rw [VR] at r1
        exact ⟨(.inr i, v) :: kvs, by rw [q1, r1]; rfl, by rw [List.map_cons, q2], .cons ⟨.str i, r2⟩ q3⟩
      | _ => cases e1
theorem ev_disp {keys : List (Option Expr)} {values : List Expr} {pos : Pos} {l : List (CE × CE)} (h : PPs X pos keys values (l.map fun p => (rdE (kf X) W p.1, rdE (kf X) W p.2))) (hall : keys.all (·.isSome) = true := by rfl) (hl : keys.length = values.length := by rfl) (h0 : keys ≠ [] := by simp) (h15 : keys.length ≤ 15 := by decide) :
    EvE X W (.Dict keys values pos) (dispC l) := by
  refine PE.imp (pe_disp h hall hl h0 h15) fun σ H Q ⟨ι, vs, M, hr, o⟩ p hp => ?_
  have kD : Keep H (upd H p (.dK [])) := Keep.new hp
  have r0 : Rel (kf X) (ι ++ [p]) vs (M ++ [.dct []]) σ (upd H p (.dK [])) := hr.snoc hp (.inl ⟨[], upd_same, .nil⟩)
  have dD : (ι ++ [p])[M.length]? = some p := by rw [← hr.rep.len]; simp
  refine tPairs_mono l (pairs_read (qs := []) l r0 .nil (Out.base (show Out (kf X) W (VR (kf X)) ι vs σ H Q (pairsK l [] _ vs (M ++ [.dct []])) from o) (List.prefix_append _ _) kD)) fun ps H' ⟨ι', M', acc', a1, a2, a3, a4, a5⟩ => ?_
  have a4 : PRs (kf X) ι' H' acc' ps := a4
  split at a5
  case h_2 => exact a5.elim
  rename_i ks ek
  split at a5
  case isFalse => exact a5.elim
  rename_i hc
  obtain ⟨c1, c2, c3⟩ := hc
  have dI : ι'[M.length]? = some p := pre_get a1 dD
  have mE : M'[M.length]? = some (.dct []) := by
    unfold isE at c1
    split at c1
    · assumption
    · cases c1
  have hE : H' p = some (.dK []) := by
    rcases a3.rep.obj _ _ _ mE dI with ⟨gs, e1, e2⟩ | ⟨ks, _, _, z⟩
    · cases e2
      exact e1
    · exact absurd rfl z
  obtain ⟨kvs, q1, q2, q3⟩ := flat_kvs a4 ek
  have hm : mergeK [] kvs = kvs := merge_nd kvs [] (by rw [List.nil_append, q2]; exact c3)
  have hlen : kvs.length ≤ 15 := by
    have : acc'.length = kvs.length := Paired.length q3
    omega
  refine ⟨hE, kvs, q1, hlen, ?_⟩
  rw [hm]
  have kM : Keep H' (upd H' p (.dK kvs)) := Keep.mut hE (fun _ z => by cases z) fun _ _ z => by cases z
  have q4 : DR (kf X) ι' (upd H' p (.dK kvs)) acc' kvs := Paired.mapP q3 fun a b r => ⟨r.1, r.2.mono (List.prefix_refl _) kM⟩
  exact a5 ι' _ _ (List.prefix_refl _) kM (a3.set dI hE kM (.inl ⟨kvs, upd_same, q4⟩) fun _ z => by cases z) (by rw [vr_ref]; exact ⟨p, dI, rfl⟩)
end
end AM
end

section
set_option Elab.async false
set_option linter.all false
set_option autoImplicit false
set_option maxRecDepth 100000
set_option maxHeartbeats 4000000
/-! AM 39: list.index. -/
namespace AM
open PySem PySem.Spec L2
def mIndex (a : AV) (as : List AV) (M : AH) : R AV := match a, as with
  | .ref i, [y] => match datS M (.ref i), datS M y with
    | some (.list ds), some d => match ds.findIdx? (fun z => PyData.eqv z d) with
      | some j => .ok (.int j) M
      | none => .bad
    | _, _ => .bad
  | _, _ => .bad
section
variable [Tb] {X : Cx} {W : WX}
theorem mt_idx (hu : X.A.units + 65 < cLine) : MtR X "list.index" (rdM (kf X) W mIndex) := by
  intro pins s σ0 H x xs v us Q I rx rv ⟨ι, vs, M, σ, a, as, hr, ha, has, o⟩
  unfold mIndex at o
  split at o
  case h_2 => exact o.elim
  rename_i i y
  split at o
  case h_2 => exact o.elim
  rename_i ds d e1 e2
  split at o
  case h_2 => exact o.elim
  rename_i j ej
  obtain ⟨d1, s1⟩ := datS_dp hr.rep e1 ha
  rw [vr_ref] at ha
  obtain ⟨p, ei, rfl⟩ := ha
  obtain ⟨w, ws0, rfl, g1, g2⟩ := has.cons_inv
  obtain rfl := g2.nil_inv
  obtain ⟨d2, s2⟩ := datS_dp hr.rep e2 g1
  obtain ⟨hj, hp, hno⟩ := List.findIdx?_eq_some_iff_getElem.mp ej
  refine mt_indexD hu pins s σ0 H _ _ v us Q I rx rv ⟨p, w, d, ds, j, ds[j], rfl, rfl, d1, d2, s1, s2, List.getElem?_eq_getElem hj, hp, fun m z' hm hz => ?_, Out.fin hr o (by rw [VR])⟩
  obtain ⟨hl, rfl⟩ := List.getElem?_eq_some_iff.mp hz
  have := hno m hm
  simpa using this
theorem mf_index (hu : X.A.units + 65 < cLine) : MFact X W "index" (onT "list" mIndex) := mf_on (.inr (.inl rfl)) PySem.F.plainAttrs_list PySem.F.slot_list_index PySem.F.type_list_index (mt_idx hu)
end
end AM
end

section
set_option Elab.async false
set_option linter.all false
set_option autoImplicit false
set_option maxRecDepth 100000
set_option maxHeartbeats 4000000
/-! AM 40: max, min of a list of whole numbers. -/
namespace AM
open PySem PySem.Spec L2
def mxI (n : Int) : List Int → Int
  | [] => n
  | x :: xs => mxI (if n < x then x else n) xs
def mnI (n : Int) : List Int → Int
  | [] => n
  | x :: xs => mnI (if x < n then x else n) xs
theorem mxI_spec : ∀ (xs : List Int) (n : Int), mxI n xs ∈ n :: xs ∧ ∀ y ∈ n :: xs, y ≤ mxI n xs
  | [], n => ⟨by simp [mxI], by simp [mxI]⟩
  | x :: xs, n => by
    obtain ⟨h1, h2⟩ := mxI_spec xs (if n < x then x else n)
    have e : mxI n (x :: xs) = mxI (if n < x then x else n) xs := rfl
    rw [e]
    have b := h2 _ (List.mem_cons_self ..)
    refine ⟨?_, fun y hy => ?_⟩
    · rcases List.mem_cons.mp h1 with h | h
      · rw [h]; split <;> simp
      · simp [h]
    · rcases List.mem_cons.mp hy with rfl | hy
      · generalize mxI _ xs = f at b ⊢
        split at b <;> omega
      · rcases List.mem_cons.mp hy with rfl | hy
        · generalize mxI _ xs = f at b ⊢
          split at b <;> omega
        · exact h2 y (List.mem_cons_of_mem _ hy)
theorem mnI_spec : ∀ (xs : List Int) (n : Int), mnI n xs ∈ n :: xs ∧ ∀ y ∈ n :: xs, mnI n xs ≤ y
  | [], n => ⟨by simp [mnI], by simp [mnI]⟩
  | x :: xs, n => by
    obtain ⟨h1, h2⟩ := mnI_spec xs (if x < n then x else n)
    have e : mnI n (x :: xs) = mnI (if x < n then x else n) xs := rfl
    rw [e]
    have b := h2 _ (List.mem_cons_self ..)
    refine ⟨?_, fun y hy => ?_⟩
    · rcases List.mem_cons.mp h1 with h | h
      · rw [h]; split <;> simp
      · simp [h]
    · rcases List.mem_cons.mp hy with rfl | hy
      · generalize mnI _ xs = f at b ⊢
        split at b <;> omega
      · rcases List.mem_cons.mp hy with rfl | hy
        · generalize mnI _ xs = f at b ⊢
          split at b <;> omega
        · exact h2 y (List.mem_cons_of_mem _ hy)
def maxLA (as : List AV) (M : AH) : R AV := match as with
  | [a] => match lstOf a M with
    | some xs => match intsOf xs with
      | some (n :: ns) => .ok (.int (mxI n ns)) M
      | _ => .bad
    | none => .bad
  | _ => .bad
def minLA (as : List AV) (M : AH) : R AV := match as with
  | [a] => match lstOf a M with
    | some xs => match intsOf xs with
      | some (n :: ns) => .ok (.int (mnI n ns)) M
      | _ => .bad
    | none => .bad
  | _ => .bad
section
variable [Tb] {X : Cx} {W : WX}
theorem cr_maxL (hc : X.calm = true) : CallR X (.builtin "max") (rdN (kf X) W maxLA) := by
  intro pins s σ0 H xs us Q I r ⟨ι, vs, M, σ, as, hr, ha, o⟩
  unfold maxLA at o
  split at o
  case h_2 => exact o.elim
  rename_i a
  split at o
  case h_2 => exact o.elim
  rename_i ys ey
  split at o
  case h_2 => exact o.elim
  rename_i n ns en
  obtain ⟨v, vs', rfl, g1, g2⟩ := ha.cons_inv
  obtain rfl := g2.nil_inv
  obtain ⟨l, zs, rfl, hq, hz⟩ := lst_rel hr.rep ey g1
  obtain rfl := VRs.ints en hz
  obtain ⟨s1, s2⟩ := mxI_spec ns n
  refine cr_max hc pins s σ0 H _ us Q I r ⟨l, n :: ns, rfl, hq, by simp, fun m h1 h2 => ?_⟩
  have e : m = mxI n ns := Int.le_antisymm (s2 m h1) (h2 _ s1)
  rw [e]
  exact Out.fin hr o (by rw [VR])
theorem cr_minL (hc : X.calm = true) : CallR X (.builtin "min") (rdN (kf X) W minLA) := by
  intro pins s σ0 H xs us Q I r ⟨ι, vs, M, σ, as, hr, ha, o⟩
  unfold minLA at o
  split at o
  case h_2 => exact o.elim
  rename_i a
  split at o
  case h_2 => exact o.elim
  rename_i ys ey
  split at o
  case h_2 => exact o.elim
  rename_i n ns en
  obtain ⟨v, vs', rfl, g1, g2⟩ := ha.cons_inv
  obtain rfl := g2.nil_inv
  obtain ⟨l, zs, rfl, hq, hz⟩ := lst_rel hr.rep ey g1
  obtain rfl := VRs.ints en hz
  obtain ⟨s1, s2⟩ := mnI_spec ns n
  refine cr_min hc pins s σ0 H _ us Q I r ⟨l, n :: ns, rfl, hq, by simp, fun m h1 h2 => ?_⟩
  have e : m = mnI n ns := Int.le_antisymm (h2 _ s1) (s2 m h1)
  rw [e]
  exact Out.fin hr o (by rw [VR])
end
end AM
end

section
set_option Elab.async false
set_option linter.all false
set_option autoImplicit false
set_option maxRecDepth 100000
set_option maxHeartbeats 4000000
/-! AM 41: dict.setdefault, keys whole numbers and texts. -/
namespace AM
open PySem PySem.Spec L2
def mSetF (d : AV) (as : List AV) (M : AH) : R AV := match as with
  | [a, x] => dk2 d a M fun i kvs k => if isFl a = true ∧ kvs.length < sizeLine then (match dfind kvs k with
    | some v => .ok v M
    | none => .ok x (M.set i (.dct (dput kvs a k x)))) else .bad
  | _ => .bad
section
variable [Tb] {X : Cx} {W : WX}
theorem mt_setd (hu : X.A.units + 64 < cLine) : MtR X "dict.setdefault" (rdM (kf X) W mSetF) := by
  intro pins s σ0 H x xs v us Q I rx rv ⟨ι, vs, M, σ, a, as, hr, ha, has, o⟩
  unfold mSetF at o
  split at o
  case h_2 => exact o.elim
  rename_i b c
  obtain ⟨i, kvs, k, rfl, q, hk, ok, o⟩ := dk2_cases o
  obtain ⟨w, ws0, rfl, g1, g2⟩ := has.cons_inv
  obtain ⟨w2, ws1, rfl, g3, g4⟩ := g2.cons_inv
  obtain rfl := g4.nil_inv
  obtain ⟨u, u2, rfl, ru, ru2⟩ := vals2 rv
  rw [vr_ref] at ha
  obtain ⟨p, ei, rfl⟩ := ha
  cases rx
  split at o
  case isFalse => exact o.elim
  rename_i hc
  obtain ⟨fl, hl⟩ := hc
  have ho := hr.rep.at_ q ei
  rcases put_go hu I hr q ei g1 ru g3 ok hk hl with ⟨gs, ws, y', fv, hy, hm, go⟩ | ⟨ks, xs, p2, tv, e1, _, _, _⟩
  · obtain ⟨h1, h2, h3, h4, h5⟩ := fv
    have hf := fl_find (κ := kf X) hy hk h3 h4
    refine call_meetsIn PySem.F.slot_dict_setdefault h5.typeIs PySem.F.entry_dict_setdefault (PySem.F.args_dict_setdefault_3 _ _ _) (kt_meets_setdefault (mixKind X.prog X.w) p hm h1 u2) ⟨ws, h5, by rw [← h4.length]; exact h2, fun v hv => ?_, fun hn h' dd' hs => ?_⟩
    · rw [hv] at hf
      generalize dfind kvs k = df at hf o
      cases hf with
      | @some a' _ r =>
        obtain ⟨z, e1, e2⟩ := r
        exact ⟨z, H, I.tok _, e2, Out.fin hr o e1⟩
    · rw [hn] at hf
      generalize hdf : dfind kvs k = df at hf o
      cases hf
      obtain ⟨H', I', k', r'⟩ := go h' u2 (s.toks + 1) ru2 dd' hs
      exact ⟨w2, H', I', ru2, o ι H' w2 (List.prefix_refl _) k' r' (g3.mono (List.prefix_refl _) k')⟩
  · subst e1
    cases b <;> first | (cases fl; done) | skip
    · rw [VR] at g1; cases g1
    · rw [VR] at g1; cases g1
theorem mf_setd (hu : X.A.units + 64 < cLine) : MFact X W "setdefault" (onT "dict" mSetF) := mf_on (.inr (.inr rfl)) PySem.F.plainAttrs_dict PySem.F.slot_dict_setdefault PySem.F.type_dict_setdefault (mt_setd hu)
end
end AM
end

section
set_option Elab.async false
set_option linter.all false
set_option autoImplicit false
set_option maxRecDepth 100000
set_option maxHeartbeats 4000000
/-! AM 42: < > <= >= of data: tuples, lists, texts. -/
namespace AM
open PySem PySem.Spec L2
def notNon : PyData → Bool
  | .none => false
  | _ => true
def cmpDA (F : PyData → PyData → Bool) (a b : AV) (M : AH) : R AV := match datS M a, datS M b with
  | some d, some e => if PySem.W.alike d e = true ∧ notNon d = true then .ok (.bl (F d e)) M else .bad
  | _, _ => .bad
def opLtD : AV → AV → AH → R AV := cmpDA fun d e => PySem.W.dataLt d e
def opGtD : AV → AV → AH → R AV := cmpDA fun d e => PySem.W.dataLt e d
def opLeD : AV → AV → AH → R AV := cmpDA fun d e => !PySem.W.dataLt e d
def opGeD : AV → AV → AH → R AV := cmpDA fun d e => !PySem.W.dataLt d e
section
variable [Tb] {X : Cx} {W : WX}
theorem notNon_ne {d : PyData} (h : notNon d = true) : d ≠ .none := by
  intro e; rw [e] at h; cases h
theorem ok_cmpD {op : CmpOp} {F : PyData → PyData → Bool} (hu : X.A.units + 64 < cLine)
    (hop : ∀ {prog : Program} {w : World} {A : Around} {E : Value → Shared → Prop} {s : Shared} {a b : Value} {da db : PyData} {as bs : List Addr} {Q : Value → Shared → Prop}, Reads s.heap a da as → Reads s.heap b db bs → PySem.W.alike da db = true → da ≠ .none → A.units + min da.depth db.depth < cLine → Q (.bool (F da db)) s → wpAny (model prog w) A (compareOp op a b) Q E s) :
    OpR X (compareOp op) (rd2 (kf X) W (cmpDA F)) := by
  intro pins s σ0 H x y v u Q I rx ry ⟨ι, vs, M, σ, a, b, hr, ha, hb, o⟩
  unfold cmpDA at o
  split at o
  · rename_i d e h1 h2
    split at o
    · rename_i hh
      obtain ⟨d1, s1⟩ := datS_dp hr.rep h1 ha
      obtain ⟨d2, s2⟩ := datS_dp hr.rep h2 hb
      obtain ⟨as, r1⟩ := Dp.reads I d x v d1 rx
      obtain ⟨bs, r2⟩ := Dp.reads I e y u d2 ry
      refine hop r1 r2 hh.1 (notNon_ne hh.2) ?_ ⟨.bl _, H, I, rfl, Out.fin hr o (by rw [vr_bl])⟩
      have : d.depth ≤ 64 := by
        have s1 := s1
        unfold SeqAt.shaped at s1
        simp at s1
        omega
      have := Nat.min_le_left d.depth e.depth
      omega
    · exact o.elim
  · exact o.elim
theorem ok_ltD (hu : X.A.units + 64 < cLine) : OpR X (compareOp .Lt) (rd2 (kf X) W opLtD) := ok_cmpD hu PySem.W.lt_data
theorem ok_gtD (hu : X.A.units + 64 < cLine) : OpR X (compareOp .Gt) (rd2 (kf X) W opGtD) := ok_cmpD hu PySem.W.gt_data
theorem ok_leD (hu : X.A.units + 64 < cLine) : OpR X (compareOp .LtE) (rd2 (kf X) W opLeD) := ok_cmpD hu PySem.W.le_data
theorem ok_geD (hu : X.A.units + 64 < cLine) : OpR X (compareOp .GtE) (rd2 (kf X) W opGeD) := ok_cmpD hu PySem.W.ge_data
end
end AM
end

section
set_option Elab.async false
set_option linter.all false
set_option autoImplicit false
set_option maxRecDepth 100000
set_option maxHeartbeats 4000000
/-! law_k69_whole_stairs_whatever_is_answered: what its defs compute (printed by gen.py). -/
namespace K69
open PySem AM
def fns : List Str := []
def ws : List Str := []
def em : Str → Str → Option Bool := emT []
def c_is_whole : CS := (retC (andC (argsC (isA2 fns ws) (consA (varC 0) (consA (conC (.ty "int")) nilA))) (notC (argsC (isA2 fns ws) (consA (varC 0) (consA (conC (.ty "bool")) nilA))))))
def f_is_whole : List SV → AH → R AV := fnRun 1 c_is_whole
def c_is_number : CS := (retC (andC (callC 1 f_is_whole (consA (varC 0) nilA)) (bin2 opGe (varC 0) (conC (.int 0)))))
def f_is_number : List SV → AH → R AV := fnRun 1 c_is_number
def c_said : CS := (seqC (asgC (cloC (5) 0 (consA (varC 1) (consA (varC 2) nilA))) (nameG 3))
  (seqC (ifS (notT (truC (argsC (isA2 fns ws) (consA (varC 3) (consA (conC (.ty "bool")) nilA)))))
  (raiseC "BadAnswer" "thing" (varC 3))
  skipC)
  (retC (varC 3))))
def f_said : List SV → AH → R AV := fnRun 4 c_said
def c_first_so : CS := (seqC (whileC (cmpT opLt (varC 0) (varC 1))
  (seqC (asgC (bin2 opDiv (bin2 opAdd (varC 0) (varC 1)) (conC (.int 2))) (nameG 3))
  (ifS (truC (cloC (7) 2 (consA (varC 3) nilA)))
  (asgC (varC 3) (nameG 1))
  (asgC (bin2 opAdd (varC 3) (conC (.int 1))) (nameG 0)))))
  (retC (varC 0)))
def f_first_so : List SV → AH → R AV := fnRun 4 c_first_so
def c_need_behind : CS := (retC (callX 3 f_first_so (consX (bin2 opAdd (varC 1) (conC (.int 1))) (consX (bin2 opAdd (varC 3) (conC (.int 1))) (consL 6 1 [0, 2] (callX 3 f_said (consV 1 (consX (varC 0) (consX (bin2 opAdd (bin2 opAdd (varC 0) (varC 2)) (conC (.int 1))) nilX)))) nilX)))))
def f_need_behind : List SV → AH → R AV := fnRun 4 c_need_behind
def c_out_with : CS := (retC (callX 3 f_first_so (consX (varC 2) (consX (varC 3) (consL 6 1 [0, 1] (notC (callX 3 f_said (consV 1 (consX (varC 2) (consX (bin2 opAdd (varC 0) (conC (.int 1))) nilX))))) nilX)))))
def f_out_with : List SV → AH → R AV := fnRun 4 c_out_with
def c_learned_stairs : CS := (seqC (ifS (notT (truC (callC 1 f_is_number (consA (varC 1) nilA))))
  (raiseC "BadMost" "most" (varC 1))
  skipC)
  (seqC (ifS (notT (truC (callC 1 f_is_number (consA (varC 2) nilA))))
  (raiseC "BadGain" "gain" (varC 2))
  skipC)
  (seqC (parC 3 4 (consA (argsC lstA nilA) (consA (conC (.int 0)) nilA)))
  (seqC (asgC (callX 3 f_first_so (consX (conC (.int 0)) (consX (bin2 opAdd (varC 1) (conC (.int 1))) (consL 6 1 [0] (callX 3 f_said (consV 1 (consX (varC 0) (consX (conC (.int 0)) nilX)))) nilX)))) (nameG 5))
  (seqC (whileC (cmpT opLe (varC 5) (varC 1))
  (seqC (asgC (bin2 opAdd (bin2 opAdd (varC 5) (varC 2)) (conC (.int 1))) (nameG 6))
  (seqC (asgC (callX 4 f_out_with (consV 0 (consX (varC 5) (consX (varC 4) (consX (varC 6) nilX))))) (nameG 7))
  (seqC (ifS (cmpT opEq (varC 7) (varC 6))
  (retC (bin2 opAdd (varC 3) (argsC lstA (consA (argsC tupA (consA (varC 5) (consA (conC .non) nilA))) nilA))))
  skipC)
  (seqC (dropC (methK (onT "list" mAppend) (varC 3) (consA (argsC tupA (consA (varC 5) (consA (bin2 opSub (varC 7) (varC 5)) nilA))) nilA)))
  (seqC (asgC (callX 4 f_need_behind (consV 0 (consX (varC 5) (consX (bin2 opSub (varC 7) (varC 5)) (consX (varC 1) nilX))))) (nameG 8))
  (seqC (asgC (bin2 opAdd (bin2 opSub (bin2 opAdd (varC 8) (varC 7)) (varC 5)) (conC (.int 1))) (nameG 4))
  (asgC (varC 8) (nameG 5)))))))))
  (retC (varC 3)))))))
def f_learned_stairs : List SV → AH → R AV := fnRun 9 c_learned_stairs
def c_law_stream : CS := (retC (argsC lstA (consA (listScr 0) (consA (conC (.int 0)) (consA (conC (.int 0)) (consA (conC (.int 17)) nilA))))))
def f_law_stream : List SV → AH → R AV := fnRun 1 c_law_stream
def c_law_draw : CS := (seqC (asgC (bin2 opAdd (bin2 opIx (varC 0) (conC (.int 2))) (conC (.int 1))) (subG (varC 0) (conC (.int 2))))
  (seqC (whileC (andT (cmpT opEq (bin2 opIx (varC 0) (conC (.int 1))) (conC (.int 0))) (cmpT opNe (bin2 opIx (varC 0) (conC (.int 0))) (argsC lstA nilA)))
  (seqC (asgC (argsC absA (consA (methK (onT "list" mPop1) (bin2 opIx (varC 0) (conC (.int 0))) (consA (conC (.int 0)) nilA)) nilA)) (nameG 2))
  (seqC (asgC (bin2 opMod (argsC intA (consA (bin2 opAdd (bin2 opAdd (bin2 opMul (bin2 opIx (varC 0) (conC (.int 3))) (conC (.int 8191))) (varC 2)) (conC (.int 3))) nilA)) (conC (.int 2147483647))) (subG (varC 0) (conC (.int 3))))
  (asgC (ifC (cmpT opGe (varC 2) (bin2 opPow (conC (.int 10)) (conC (.int 18)))) (varC 2) (conC (.int 0))) (subG (varC 0) (conC (.int 1)))))))
  (seqC (ifS (cmpT opGt (bin2 opIx (varC 0) (conC (.int 1))) (conC (.int 0)))
  (seqC (asgC (bin2 opMod (argsC intA (consA (bin2 opIx (varC 0) (conC (.int 1))) nilA)) (varC 1)) (nameG 3))
  (seqC (asgC (bin2 opDiv (bin2 opIx (varC 0) (conC (.int 1))) (varC 1)) (subG (varC 0) (conC (.int 1))))
  (retC (varC 3))))
  skipC)
  (seqC (asgC (bin2 opMod (argsC intA (consA (bin2 opPow (bin2 opAdd (bin2 opAdd (bin2 opIx (varC 0) (conC (.int 3))) (bin2 opMul (conC (.int 7919)) (bin2 opIx (varC 0) (conC (.int 2))))) (conC (.int 104729))) (conC (.int 5))) nilA)) (conC (.int 2147483629))) (nameG 4))
  (retC (bin2 opMod (bin2 opMod (argsC intA (consA (bin2 opPow (bin2 opAdd (bin2 opAdd (bin2 opMul (varC 4) (conC (.int 48271))) (bin2 opMul (conC (.int 30011)) (bin2 opIx (varC 0) (conC (.int 2))))) (conC (.int 29))) (conC (.int 3))) nilA)) (conC (.int 1000000007))) (varC 1)))))))
def f_law_draw : List SV → AH → R AV := fnRun 5 c_law_draw
def c_law_pick : CS := (retC (bin2 opIx (varC 1) (callC 2 f_law_draw (consA (varC 0) (consA (argsC lenA (consA (varC 1) nilA)) nilA)))))
def f_law_pick : List SV → AH → R AV := fnRun 2 c_law_pick
def c_law_same (n : Nat) (rc : List SV → AH → R AV) : CS := (seqC (ifS (truC (argsC (isA2 fns ws) (consA (varC 1) (consA (argsC tupA (consA (conC (.ty "list")) (consA (conC (.ty "tuple")) nilA))) nilA))))
  (seqC (ifS (orT (cmpT (opNeY fns ws []) (argsC (isA2 fns ws) (consA (varC 0) (consA (conC (.ty "list")) nilA))) (argsC (isA2 fns ws) (consA (varC 1) (consA (conC (.ty "list")) nilA)))) (cmpT (opNeY fns ws []) (argsC (isA2 fns ws) (consA (varC 0) (consA (conC (.ty "tuple")) nilA))) (argsC (isA2 fns ws) (consA (varC 1) (consA (conC (.ty "tuple")) nilA)))))
  (retC (conC (.bl false)))
  skipC)
  (retC (andC (bin2 (opEqX fns ws []) (argsC lenA (consA (varC 0) nilA)) (argsC lenA (consA (varC 1) nilA))) (argsC allA (consA (lcC [2, 3] (argsI zipA (consA (varC 0) (consA (varC 1) nilA))) (tupG 2 (consG (nameG 2) (consG (nameG 3) nilG))) yesT (callC 2 rc (consA (varC 2) (consA (varC 3) nilA)))) nilA)))))
  skipC)
  (seqC (ifS (truC (argsC (isA2 fns ws) (consA (varC 1) (consA (conC (.ty "dict")) nilA))))
  (retC (andC (argsC (isA2 fns ws) (consA (varC 0) (consA (conC (.ty "dict")) nilA))) (callC 2 rc (consA (un1 itemsL (varC 0)) (consA (un1 itemsL (varC 1)) nilA)))))
  skipC)
  (seqC (ifS (orT (truC (argsC (isA2 fns ws) (consA (varC 1) (consA (conC (.ty "bool")) nilA)))) (truC (argsC (isA2 fns ws) (consA (varC 0) (consA (conC (.ty "bool")) nilA)))))
  (retC (andC (argsC (isA2 fns ws) (consA (varC 1) (consA (conC (.ty "bool")) nilA))) (andC (argsC (isA2 fns ws) (consA (varC 0) (consA (conC (.ty "bool")) nilA))) (bin2 (opEqX fns ws []) (varC 0) (varC 1)))))
  skipC)
  (retC (andC (notC (argsC (isA2 fns ws) (consA (varC 0) (consA (argsC tupA (consA (conC (.ty "list")) (consA (conC (.ty "tuple")) (consA (conC (.ty "dict")) nilA)))) nilA)))) (bin2 (opEqX fns ws []) (varC 0) (varC 1)))))))
def f_law_same : Nat → List SV → AH → R AV
  | 0 => fun _ _ => .bad
  | n + 1 => fnRun 4 (c_law_same n (f_law_same n))
def c_law_up : CS := (seqC (parC 1 2 (consA (lcC [3] (valI (varC 0)) (nameG 3) yesT (argsC tupA (consA (bin2 opIx (varC 3) (conC (.int 0))) (consA (argsC intA (consA (bin2 opIs (bin2 opIx (varC 3) (conC (.int 1))) (conC .non)) nilA)) (consA (ifC (cmpT opIs (bin2 opIx (varC 3) (conC (.int 1))) (conC .non)) (conC (.int 0)) (bin2 opIx (varC 3) (conC (.int 1)))) nilA))))) (consA (argsC lstA nilA) nilA)))
  (seqC (forC (valI (argsC sortedA (consA (varC 1) nilA))) (tupG 3 (consG (nameG 4) (consG (nameG 5) (consG (nameG 6) nilG))))
  (ifS (orT (cmpT (opEqX fns ws []) (varC 2) (argsC lstA nilA)) (cmpT opGtD (argsC tupA (consA (varC 5) (consA (varC 6) nilA))) (sliceC (bin2 opIx (varC 2) (un1 opNeg (conC (.int 1)))) (someO (conC (.int 1))) noO)))
  (asgC (bin2 opAdd (lcC [7] (valI (varC 2)) (nameG 7) (cmpT opLt (bin2 opIx (varC 7) (conC (.int 0))) (varC 4)) (varC 7)) (argsC lstA (consA (argsC tupA (consA (varC 4) (consA (varC 5) (consA (varC 6) nilA)))) nilA))) (nameG 2))
  skipC))
  (retC (lcC [4, 5, 6] (valI (varC 2)) (tupG 3 (consG (nameG 4) (consG (nameG 5) (consG (nameG 6) nilG)))) yesT (argsC tupA (consA (varC 4) (consA (ifC (cmpT (opEqX fns ws []) (varC 5) (conC (.int 1))) (conC .non) (varC 6)) nilA)))))))
def f_law_up : List SV → AH → R AV := fnRun 8 c_law_up
def c_law_is_list : CS := (retC (argsC (isA2 fns ws) (consA (varC 0) (consA (argsC tupA (consA (conC (.ty "list")) (consA (conC (.ty "tuple")) nilA))) nilA))))
def f_law_is_list : List SV → AH → R AV := fnRun 1 c_law_is_list
def c_law_is_whole : CS := (retC (andC (argsC (isA2 fns ws) (consA (varC 0) (consA (conC (.ty "int")) nilA))) (notC (argsC (isA2 fns ws) (consA (varC 0) (consA (conC (.ty "bool")) nilA))))))
def f_law_is_whole : List SV → AH → R AV := fnRun 1 c_law_is_whole
def c_law_is_stair : CS := (seqC (ifS (orT (notT (truC (callC 1 f_law_is_list (consA (varC 0) nilA)))) (orT (cmpT (opNeY fns ws []) (argsC lenA (consA (varC 0) nilA)) (conC (.int 2))) (orT (notT (truC (callC 1 f_law_is_whole (consA (bin2 opIx (varC 0) (conC (.int 0))) nilA)))) (cmpT opLt (bin2 opIx (varC 0) (conC (.int 0))) (conC (.int 0))))))
  (retC (conC (.bl false)))
  skipC)
  (retC (orC (bin2 opIs (bin2 opIx (varC 0) (conC (.int 1))) (conC .non)) (andC (callC 1 f_law_is_whole (consA (bin2 opIx (varC 0) (conC (.int 1))) nilA)) (bin2 opGe (bin2 opAdd (bin2 opIx (varC 0) (conC (.int 0))) (bin2 opIx (varC 0) (conC (.int 1)))) (conC (.int 0)))))))
def f_law_is_stair : List SV → AH → R AV := fnRun 1 c_law_is_stair
def c_law_are_stairs : CS := (retC (andC (argsC allA (consA (lcC [1] (valI (varC 0)) (nameG 1) yesT (callC 1 f_law_is_stair (consA (varC 1) nilA))) nilA)) (bin2 (opEqX fns ws []) (callC 1 f_law_up (consA (varC 0) nilA)) (lcC [1] (valI (varC 0)) (nameG 1) yesT (argsC tupleA (consA (varC 1) nilA))))))
def f_law_are_stairs : List SV → AH → R AV := fnRun 2 c_law_are_stairs
def c_law_out : CS := (seqC (asgC (lcC [3] (valI (varC 0)) (nameG 3) (cmpT opLe (bin2 opIx (varC 3) (conC (.int 0))) (varC 1)) (bin2 opIx (varC 3) (conC (.int 1)))) (nameG 2))
  (seqC (ifS (cmpT (opEqX fns ws []) (varC 2) (argsC lstA nilA))
  (retC (un1 opNeg (conC (.int 1))))
  skipC)
  (retC (ifC (cmpT opIs (bin2 opIx (varC 2) (un1 opNeg (conC (.int 1)))) (conC .non)) (conC .non) (bin2 opAdd (varC 1) (bin2 opIx (varC 2) (un1 opNeg (conC (.int 1)))))))))
def f_law_out : List SV → AH → R AV := fnRun 4 c_law_out
def c_law_any_answer : CS := (seqC (asgC (sliceC (bin2 opIx (varC 0) (un1 opNeg (conC (.int 1)))) noO (someO (conC (.int 2)))) (tupG 2 (consG (nameG 4) (consG (nameG 5) nilG))))
  (seqC (ifS (cmpT (opEqX fns ws []) (varC 2) (conC (.int 0)))
  (asgC (bin2 (opEqX fns ws []) (callC 2 f_law_draw (consA (varC 1) (consA (conC (.int 2)) nilA))) (conC (.int 0))) (nameG 6))
  (ifS (cmpT (opEqX fns ws []) (varC 2) (conC (.int 1)))
  (asgC (bin2 opGt (callC 2 f_law_draw (consA (varC 1) (consA (conC (.int 5)) nilA))) (conC (.int 0))) (nameG 6))
  (ifS (cmpT (opEqX fns ws []) (varC 2) (conC (.int 2)))
  (asgC (bin2 (opEqX fns ws []) (callC 2 f_law_draw (consA (varC 1) (consA (conC (.int 5)) nilA))) (conC (.int 0))) (nameG 6))
  (ifS (cmpT (opEqX fns ws []) (varC 2) (conC (.int 3)))
  (asgC (bin2 (opEqX fns ws []) (bin2 opMod (argsC lenA (consA (varC 0) nilA)) (conC (.int 2))) (conC (.int 0))) (nameG 6))
  (asgC (bin2 opGe (bin2 opAdd (bin2 opMul (conC (.int 2)) (varC 4)) (varC 3)) (varC 5)) (nameG 6))))))
  (seqC (asgC (argsC tupA (consA (varC 4) (consA (varC 5) (consA (varC 6) nilA)))) (subG (varC 0) (un1 opNeg (conC (.int 1)))))
  (retC (varC 6)))))
def f_law_any_answer : List SV → AH → R AV := fnRun 7 c_law_any_answer
def c_law_box : CS := (seqC (dropC (methK (onT "list" mAppend) (varC 0) (consA (argsC tupA (consA (varC 4) (consA (varC 5) (consA (conC .non) nilA)))) nilA)))
  (retC (callC 4 f_law_any_answer (consA (varC 0) (consA (varC 1) (consA (varC 2) (consA (varC 3) nilA)))))))
def f_law_box : List SV → AH → R AV := fnRun 6 c_law_box
def c_law_low_gain : CS := (seqC (asgC (lcC [3] (valI (varC 0)) (nameG 3) (andT (truC (bin2 opIx (varC 3) (conC (.int 2)))) (cmpT opLe (bin2 opIx (varC 3) (conC (.int 0))) (varC 1))) (bin2 opSub (bin2 opIx (varC 3) (conC (.int 1))) (bin2 opIx (varC 3) (conC (.int 0))))) (nameG 2))
  (retC (ifC (cmpT (opNeY fns ws []) (varC 2) (argsC lstA nilA)) (argsC maxLA (consA (varC 2) nilA)) (conC .non))))
def f_law_low_gain : List SV → AH → R AV := fnRun 4 c_law_low_gain
def c_law_high_gain : CS := (seqC (asgC (lcC [3] (valI (varC 0)) (nameG 3) (andT (notT (truC (bin2 opIx (varC 3) (conC (.int 2))))) (cmpT opGe (bin2 opIx (varC 3) (conC (.int 0))) (varC 1))) (bin2 opSub (bin2 opSub (bin2 opIx (varC 3) (conC (.int 1))) (bin2 opIx (varC 3) (conC (.int 0)))) (conC (.int 1)))) (nameG 2))
  (retC (ifC (cmpT (opNeY fns ws []) (varC 2) (argsC lstA nilA)) (argsC minLA (consA (varC 2) nilA)) (conC .non))))
def f_law_high_gain : List SV → AH → R AV := fnRun 4 c_law_high_gain
def c_law_only_right : CS := (seqC (asgC (bin2 opAdd (lcC [5] (valI (varC 1)) (nameG 5) yesT (bin2 opSub (bin2 opIx (varC 5) (conC (.int 0))) (conC (.int 1)))) (argsC lstA (consA (varC 2) nilA))) (nameG 4))
  (seqC (ifS (andT (cmpT opGe (bin2 opIx (varC 4) (conC (.int 0))) (conC (.int 0))) (orT (cmpT opIs (callC 2 f_law_high_gain (consA (varC 0) (consA (bin2 opIx (varC 4) (conC (.int 0))) nilA))) (conC .non)) (cmpT opGe (bin2 opAdd (bin2 opIx (varC 4) (conC (.int 0))) (callC 2 f_law_high_gain (consA (varC 0) (consA (bin2 opIx (varC 4) (conC (.int 0))) nilA)))) (conC (.int 0)))))
  (retC (conC (.bl false)))
  skipC)
  (seqC (forC (argsI enumA (consA (varC 1) nilA)) (tupG 2 (consG (nameG 6) (consG (tupG 2 (consG (nameG 7) (consG (nameG 8) nilG))) nilG)))
  (seqC (parC 9 10 (consA (callC 2 f_law_low_gain (consA (varC 0) (consA (varC 7) nilA))) (consA (callC 2 f_law_high_gain (consA (varC 0) (consA (bin2 opIx (varC 4) (bin2 opAdd (varC 6) (conC (.int 1)))) nilA))) nilA)))
  (seqC (ifS (orT (cmpT opIs (varC 9) (conC .non)) (andT (cmpT opIs (varC 8) (conC .non)) (cmpT opLe (varC 9) (varC 3))))
  (retC (conC (.bl false)))
  skipC)
  (ifS (andT (cmpT opIsN (varC 8) (conC .non)) (orT (cmpT (opNeY fns ws []) (varC 9) (varC 8)) (orT (cmpT opIs (varC 10) (conC .non)) (cmpT (opNeY fns ws []) (argsC min2A (consA (varC 10) (consA (varC 3) nilA))) (varC 8)))))
  (retC (conC (.bl false)))
  skipC))))
  (retC (conC (.bl true))))))
def f_law_only_right : List SV → AH → R AV := fnRun 11 c_law_only_right
def c_law_bits : CS := (seqC (asgC (argsC tupA (consA (conC (.int 0)) (consA (conC (.int 1)) nilA))) (tupG 2 (consG (nameG 1) (consG (nameG 2) nilG))))
  (seqC (whileC (cmpT opLt (varC 2) (varC 0))
  (parC 1 2 (consA (bin2 opAdd (varC 1) (conC (.int 1))) (consA (bin2 opMul (varC 2) (conC (.int 2))) nilA))))
  (retC (varC 1))))
def f_law_bits : List SV → AH → R AV := fnRun 3 c_law_bits
def c_law_follows : CS := (seqC (parC3 2 3 4 (consA (bin2 opIx (bin2 opIx (varC 0) (varC 1)) (conC (.int 0))) (consA (bin2 opIx (bin2 opIx (varC 0) (varC 1)) (conC (.int 1))) (consA (sliceC (varC 0) noO (someO (varC 1))) nilA))))
  (seqC (parC 5 6 (consA (callC 2 f_law_low_gain (consA (varC 4) (consA (varC 2) nilA))) (consA (callC 2 f_law_high_gain (consA (varC 4) (consA (varC 2) nilA))) nilA)))
  (retC (orC (andC (bin2 opIsN (varC 5) (conC .non)) (bin2 opGe (varC 5) (bin2 opSub (varC 3) (varC 2)))) (andC (bin2 opIsN (varC 6) (conC .non)) (bin2 opLt (varC 6) (bin2 opSub (varC 3) (varC 2))))))))
def f_law_follows : List SV → AH → R AV := fnRun 7 c_law_follows
def c_law : CS := (seqC (asgC (callX 1 f_law_stream (consV 0 nilX)) (nameG 1))
  (seqC (forC (argsI rangeA1 (consA (conC (.int 3)) nilA)) (nameG 2)
  (seqC (asgC (argsC tupA (consA (argsC lstA nilA) (consA (callC 2 f_law_draw (consA (varC 1) (consA (conC (.int 5)) nilA))) (consA (bin2 opSub (callC 2 f_law_draw (consA (varC 1) (consA (conC (.int 30)) nilA))) (conC (.int 15))) nilA)))) (tupG 3 (consG (nameG 3) (consG (nameG 4) (consG (nameG 5) nilG)))))
  (seqC (asgC (ifC (cmpT opEq (varC 4) (conC (.int 3))) (argsC lstA (consA (conC (.int 2)) (consA (conC (.int 12)) (consA (conC (.int 60)) (consA (conC (.int 1001)) nilA))))) (argsC lstA (consA (conC (.int 2)) (consA (conC (.int 9)) (consA (conC (.int 16)) (consA (conC (.int 31)) nilA)))))) (nameG 6))
  (seqC (asgC (argsC tupA (consA (callC 2 f_law_draw (consA (varC 1) (consA (callC 2 f_law_pick (consA (varC 1) (consA (varC 6) nilA))) nilA))) (consA (callC 2 f_law_draw (consA (varC 1) (consA (callC 2 f_law_pick (consA (varC 1) (consA (varC 6) nilA))) nilA))) nilA))) (tupG 2 (consG (nameG 7) (consG (nameG 8) nilG))))
  (seqC (asgC (callX 3 f_learned_stairs (consL 4 2 [3, 1, 4, 5] (callC 6 f_law_box (consA (varC 2) (consA (varC 3) (consA (varC 4) (consA (varC 5) (consA (varC 0) (consA (varC 1) nilA))))))) (consX (varC 7) (consX (varC 8) nilX)))) (nameG 9))
  (seqC (ifS (orT (notT (truC (callC 2 (f_law_same 30) (consA (varC 9) (consA (lcC [10] (valI (varC 9)) (nameG 10) yesT (argsC tupleA (consA (varC 10) nilA))) nilA))))) (notT (truC (callC 1 f_law_are_stairs (consA (varC 9) nilA)))))
  (retC (conC (.bl false)))
  skipC)
  (seqC (ifS (notT (truC (argsC allA (consA (lcC [10] (valI (varC 9)) (nameG 10) yesT (andC (bin2 opLe (bin2 opIx (varC 10) (conC (.int 0))) (varC 7)) (orC (bin2 opIs (bin2 opIx (varC 10) (conC (.int 1))) (conC .non)) (bin2 opLe (bin2 opIx (varC 10) (conC (.int 1))) (varC 8))))) nilA))))
  (retC (conC (.bl false)))
  skipC)
  (seqC (ifS (cmpT opGt (argsC lenA (consA (varC 3) nilA)) (bin2 opAdd (bin2 opMul (bin2 opAdd (argsC lenA (consA (varC 9) nilA)) (conC (.int 1))) (callC 1 f_law_bits (consA (bin2 opAdd (varC 7) (conC (.int 2))) nilA))) (bin2 opMul (argsC lenA (consA (varC 9) nilA)) (callC 1 f_law_bits (consA (bin2 opAdd (bin2 opAdd (varC 7) (varC 8)) (conC (.int 2))) nilA)))))
  (retC (conC (.bl false)))
  skipC)
  (seqC (forC (valI (varC 3)) (tupG 3 (consG (nameG 11) (consG (nameG 12) (consG (nameG 13) nilG))))
  (seqC (asgC (callC 2 f_law_out (consA (varC 9) (consA (varC 11) nilA))) (nameG 14))
  (ifS (cmpT opNe (orC (bin2 opIs (varC 14) (conC .non)) (bin2 opGe (varC 14) (varC 12))) (varC 13))
  (retC (conC (.bl false)))
  skipC)))
  (seqC (ifS (notT (truC (callC 4 f_law_only_right (consA (varC 3) (consA (varC 9) (consA (varC 7) (consA (varC 8) nilA)))))))
  (retC (conC (.bl false)))
  skipC)
  (forC (argsI rangeA1 (consA (conC (.int 6)) nilA)) (nameG 15)
  (ifS (truC (callC 2 f_law_follows (consA (varC 3) (consA (callC 2 f_law_draw (consA (varC 1) (consA (argsC lenA (consA (varC 3) nilA)) nilA))) nilA))))
  (retC (conC (.bl false)))
  skipC))))))))))))
  (retC (conC (.bl true)))))
def f_law : List SV → AH → R AV := fnRun 16 c_law
end K69
end

section
set_option Elab.async false
set_option linter.all false
set_option autoImplicit false
set_option maxRecDepth 100000
set_option maxHeartbeats 4000000
/-! law_k69_whole_stairs_whatever_is_answered: its defs compute that (printed by gen.py). -/
namespace K69
open PySem PySem.Spec L2 AM
def top (i : Nat) : Stmt := PySem.Challenge.pw_anyaround_k69_whole_stairs_whatever_is_a.main.body.getD i (.Pass ⟨0, 0, 0, 0⟩)
abbrev s_is_whole : Stmt := (top 6)
abbrev s_is_number : Stmt := (top 7)
abbrev s_said : Stmt := (top 9)
abbrev s_first_so : Stmt := (top 10)
abbrev s_need_behind : Stmt := (top 11)
abbrev s_out_with : Stmt := (top 12)
abbrev s_learned_stairs : Stmt := (top 13)
abbrev s_law_stream : Stmt := (top 15)
abbrev s_law_draw : Stmt := (top 16)
abbrev s_law_pick : Stmt := (top 17)
abbrev s_law_same : Stmt := (top 18)
abbrev s_law_up : Stmt := (top 19)
abbrev s_law_is_list : Stmt := (top 20)
abbrev s_law_is_whole : Stmt := (top 21)
abbrev s_law_is_stair : Stmt := (top 22)
abbrev s_law_are_stairs : Stmt := (top 23)
abbrev s_law_out : Stmt := (top 24)
abbrev s_law_any_answer : Stmt := (top 25)
abbrev s_law_box : Stmt := (top 26)
abbrev s_law_low_gain : Stmt := (top 27)
abbrev s_law_high_gain : Stmt := (top 28)
abbrev s_law_only_right : Stmt := (top 29)
abbrev s_law_bits : Stmt := (top 30)
abbrev s_law_follows : Stmt := (top 31)
abbrev s_law : Stmt := (top 32)
abbrev s_BadAnswer : Stmt := (clsAt (top 2) 0)
abbrev s_BadGain : Stmt := (clsAt (top 4) 0)
abbrev s_BadMost : Stmt := (clsAt (top 3) 0)
/-- what the head tells -/
structure Fc [Tb] (P : Program) (w : World) (K : PySem.W.Frag) (mg : Str → Option Value) (base : Heap) (cs : List (Addr × Addr)) : Prop where
  n_abs : mg "abs" = none
  n_all : mg "all" = none
  n_bool : mg "bool" = none
  n_dict : mg "dict" = none
  n_enumerate : mg "enumerate" = none
  n_int : mg "int" = none
  n_isinstance : mg "isinstance" = none
  n_len : mg "len" = none
  n_list : mg "list" = none
  n_max : mg "max" = none
  n_min : mg "min" = none
  n_range : mg "range" = none
  n_sorted : mg "sorted" = none
  n_tuple : mg "tuple" = none
  n_zip : mg "zip" = none
  g_AroundError : mg "AroundError" = some (.ref (He.ga K "AroundError"))
  g_BadAnswer : mg "BadAnswer" = some (.ref (He.ga K "BadAnswer"))
  g_BadGain : mg "BadGain" = some (.ref (He.ga K "BadGain"))
  g_BadMost : mg "BadMost" = some (.ref (He.ga K "BadMost"))
  g_law_any_answer : mg "_law_any_answer" = some (.ref (He.ga K "_law_any_answer"))
  g_law_are_stairs : mg "_law_are_stairs" = some (.ref (He.ga K "_law_are_stairs"))
  g_law_bits : mg "_law_bits" = some (.ref (He.ga K "_law_bits"))
  g_law_box : mg "_law_box" = some (.ref (He.ga K "_law_box"))
  g_law_draw : mg "_law_draw" = some (.ref (He.ga K "_law_draw"))
  g_law_follows : mg "_law_follows" = some (.ref (He.ga K "_law_follows"))
  g_law_high_gain : mg "_law_high_gain" = some (.ref (He.ga K "_law_high_gain"))
  g_law_is_list : mg "_law_is_list" = some (.ref (He.ga K "_law_is_list"))
  g_law_is_stair : mg "_law_is_stair" = some (.ref (He.ga K "_law_is_stair"))
  g_law_is_whole : mg "_law_is_whole" = some (.ref (He.ga K "_law_is_whole"))
  g_law_low_gain : mg "_law_low_gain" = some (.ref (He.ga K "_law_low_gain"))
  g_law_only_right : mg "_law_only_right" = some (.ref (He.ga K "_law_only_right"))
  g_law_out : mg "_law_out" = some (.ref (He.ga K "_law_out"))
  g_law_pick : mg "_law_pick" = some (.ref (He.ga K "_law_pick"))
  g_law_same : mg "_law_same" = some (.ref (He.ga K "_law_same"))
  g_law_stream : mg "_law_stream" = some (.ref (He.ga K "_law_stream"))
  g_law_up : mg "_law_up" = some (.ref (He.ga K "_law_up"))
  g_first_so : mg "first_so" = some (.ref (He.ga K "first_so"))
  g_is_number : mg "is_number" = some (.ref (He.ga K "is_number"))
  g_is_whole : mg "is_whole" = some (.ref (He.ga K "is_whole"))
  g_law : mg "law" = some (.ref (He.ga K "law"))
  g_learned_stairs : mg "learned_stairs" = some (.ref (He.ga K "learned_stairs"))
  g_need_behind : mg "need_behind" = some (.ref (He.ga K "need_behind"))
  g_out_with : mg "out_with" = some (.ref (He.ga K "out_with"))
  g_said : mg "said" = some (.ref (He.ga K "said"))
  d_is_whole : ∃ fd, FunD K "is_whole" "is_whole" (defArgs s_is_whole) (defBody s_is_whole) (defScope s_is_whole) [] [] (He.ga K "is_whole") fd
  d_is_number : ∃ fd, FunD K "is_number" "is_number" (defArgs s_is_number) (defBody s_is_number) (defScope s_is_number) [] [] (He.ga K "is_number") fd
  d_said : ∃ fd, FunD K "said" "said" (defArgs s_said) (defBody s_said) (defScope s_said) [] [] (He.ga K "said") fd
  d_first_so : ∃ fd, FunD K "first_so" "first_so" (defArgs s_first_so) (defBody s_first_so) (defScope s_first_so) [] [] (He.ga K "first_so") fd
  d_need_behind : ∃ fd, FunD K "need_behind" "need_behind" (defArgs s_need_behind) (defBody s_need_behind) (defScope s_need_behind) [] [] (He.ga K "need_behind") fd
  d_out_with : ∃ fd, FunD K "out_with" "out_with" (defArgs s_out_with) (defBody s_out_with) (defScope s_out_with) [] [] (He.ga K "out_with") fd
  d_learned_stairs : ∃ fd, FunD K "learned_stairs" "learned_stairs" (defArgs s_learned_stairs) (defBody s_learned_stairs) (defScope s_learned_stairs) [] [] (He.ga K "learned_stairs") fd
  d_law_stream : ∃ fd, FunD K "_law_stream" "_law_stream" (defArgs s_law_stream) (defBody s_law_stream) (defScope s_law_stream) [] [] (He.ga K "_law_stream") fd
  d_law_draw : ∃ fd, FunD K "_law_draw" "_law_draw" (defArgs s_law_draw) (defBody s_law_draw) (defScope s_law_draw) [] [] (He.ga K "_law_draw") fd
  d_law_pick : ∃ fd, FunD K "_law_pick" "_law_pick" (defArgs s_law_pick) (defBody s_law_pick) (defScope s_law_pick) [] [] (He.ga K "_law_pick") fd
  d_law_same : ∃ fd, FunD K "_law_same" "_law_same" (defArgs s_law_same) (defBody s_law_same) (defScope s_law_same) [] [] (He.ga K "_law_same") fd
  d_law_up : ∃ fd, FunD K "_law_up" "_law_up" (defArgs s_law_up) (defBody s_law_up) (defScope s_law_up) [] [] (He.ga K "_law_up") fd
  d_law_is_list : ∃ fd, FunD K "_law_is_list" "_law_is_list" (defArgs s_law_is_list) (defBody s_law_is_list) (defScope s_law_is_list) [] [] (He.ga K "_law_is_list") fd
  d_law_is_whole : ∃ fd, FunD K "_law_is_whole" "_law_is_whole" (defArgs s_law_is_whole) (defBody s_law_is_whole) (defScope s_law_is_whole) [] [] (He.ga K "_law_is_whole") fd
  d_law_is_stair : ∃ fd, FunD K "_law_is_stair" "_law_is_stair" (defArgs s_law_is_stair) (defBody s_law_is_stair) (defScope s_law_is_stair) [] [] (He.ga K "_law_is_stair") fd
  d_law_are_stairs : ∃ fd, FunD K "_law_are_stairs" "_law_are_stairs" (defArgs s_law_are_stairs) (defBody s_law_are_stairs) (defScope s_law_are_stairs) [] [] (He.ga K "_law_are_stairs") fd
  d_law_out : ∃ fd, FunD K "_law_out" "_law_out" (defArgs s_law_out) (defBody s_law_out) (defScope s_law_out) [] [] (He.ga K "_law_out") fd
  d_law_any_answer : ∃ fd, FunD K "_law_any_answer" "_law_any_answer" (defArgs s_law_any_answer) (defBody s_law_any_answer) (defScope s_law_any_answer) [] [] (He.ga K "_law_any_answer") fd
  d_law_box : ∃ fd, FunD K "_law_box" "_law_box" (defArgs s_law_box) (defBody s_law_box) (defScope s_law_box) [] [] (He.ga K "_law_box") fd
  d_law_low_gain : ∃ fd, FunD K "_law_low_gain" "_law_low_gain" (defArgs s_law_low_gain) (defBody s_law_low_gain) (defScope s_law_low_gain) [] [] (He.ga K "_law_low_gain") fd
  d_law_high_gain : ∃ fd, FunD K "_law_high_gain" "_law_high_gain" (defArgs s_law_high_gain) (defBody s_law_high_gain) (defScope s_law_high_gain) [] [] (He.ga K "_law_high_gain") fd
  d_law_only_right : ∃ fd, FunD K "_law_only_right" "_law_only_right" (defArgs s_law_only_right) (defBody s_law_only_right) (defScope s_law_only_right) [] [] (He.ga K "_law_only_right") fd
  d_law_bits : ∃ fd, FunD K "_law_bits" "_law_bits" (defArgs s_law_bits) (defBody s_law_bits) (defScope s_law_bits) [] [] (He.ga K "_law_bits") fd
  d_law_follows : ∃ fd, FunD K "_law_follows" "_law_follows" (defArgs s_law_follows) (defBody s_law_follows) (defScope s_law_follows) [] [] (He.ga K "_law_follows") fd
  d_law : ∃ fd, FunD K "law" "law" (defArgs s_law) (defBody s_law) (defScope s_law) [] [] (He.ga K "law") fd
  x_BadAnswer : ∃ fd, FunD K "__init__" "BadAnswer.__init__" (defArgs s_BadAnswer) (defBody s_BadAnswer) (defScope s_BadAnswer) [] [] (He.ma K (He.ga K "BadAnswer") "__init__") fd
  xo_BadAnswer : OexC K (He.ga K "BadAnswer") ∧ PySem.W.findIn K (.ref (He.ga K "BadAnswer")) "__init__" = some (some (.ref (He.ma K (He.ga K "BadAnswer") "__init__"))) ∧ PySem.W.typeIn K (.ref (He.ma K (He.ga K "BadAnswer") "__init__")) = some (.type "function") ∧ PySem.W.findIn K (.ref (He.ga K "BadAnswer")) "thing" = some none
  x_BadGain : ∃ fd, FunD K "__init__" "BadGain.__init__" (defArgs s_BadGain) (defBody s_BadGain) (defScope s_BadGain) [] [] (He.ma K (He.ga K "BadGain") "__init__") fd
  xo_BadGain : OexC K (He.ga K "BadGain") ∧ PySem.W.findIn K (.ref (He.ga K "BadGain")) "__init__" = some (some (.ref (He.ma K (He.ga K "BadGain") "__init__"))) ∧ PySem.W.typeIn K (.ref (He.ma K (He.ga K "BadGain") "__init__")) = some (.type "function") ∧ PySem.W.findIn K (.ref (He.ga K "BadGain")) "gain" = some none
  x_BadMost : ∃ fd, FunD K "__init__" "BadMost.__init__" (defArgs s_BadMost) (defBody s_BadMost) (defScope s_BadMost) [] [] (He.ma K (He.ga K "BadMost") "__init__") fd
  xo_BadMost : OexC K (He.ga K "BadMost") ∧ PySem.W.findIn K (.ref (He.ga K "BadMost")) "__init__" = some (some (.ref (He.ma K (He.ga K "BadMost") "__init__"))) ∧ PySem.W.typeIn K (.ref (He.ma K (He.ga K "BadMost") "__init__")) = some (.type "function") ∧ PySem.W.findIn K (.ref (He.ga K "BadMost")) "most" = some none
  gfn : GloFn ⟨K, mg, P, w, base, Tb.T⟩ fns
  isf : IsF ⟨K, mg, P, w, base, Tb.T⟩ ws
  cmf : CmpF ⟨K, mg, P, w, base, Tb.T⟩ ws
  fnd : FnData ⟨K, mg, P, w, base, Tb.T⟩ fns
  em : EmOk ⟨K, mg, P, w, base, Tb.T⟩ em
  l_need_behind : ∀ fd, FunD K "need_behind" "need_behind" (defArgs s_need_behind) (defBody s_need_behind) (defScope s_need_behind) [] [] (He.ga K "need_behind") fd → ∃ c P, cs[0]? = some (c, P) ∧ fd.code = .ref c ∧ LamX.TabB base mg c P
  l_out_with : ∀ fd, FunD K "out_with" "out_with" (defArgs s_out_with) (defBody s_out_with) (defScope s_out_with) [] [] (He.ga K "out_with") fd → ∃ c P, cs[1]? = some (c, P) ∧ fd.code = .ref c ∧ LamX.TabB base mg c P
  l_learned_stairs : ∀ fd, FunD K "learned_stairs" "learned_stairs" (defArgs s_learned_stairs) (defBody s_learned_stairs) (defScope s_learned_stairs) [] [] (He.ga K "learned_stairs") fd → ∃ c P, cs[2]? = some (c, P) ∧ fd.code = .ref c ∧ LamX.TabB base mg c P
  l_law : ∀ fd, FunD K "law" "law" (defArgs s_law) (defBody s_law) (defScope s_law) [] [] (He.ga K "law") fd → ∃ c P, cs[3]? = some (c, P) ∧ fd.code = .ref c ∧ LamX.TabB base mg c P
  nd : (cs.map (·.2)).Nodup
def qs : List Str := ["need_behind.<locals>." ++ "<lambda>", "out_with.<locals>." ++ "<lambda>", "learned_stairs.<locals>." ++ "<lambda>", "law.<locals>." ++ "<lambda>"]
-- tT : Tb.T = tabT cs qs
section
variable [Tb] {P : Program} {w : World} {K : PySem.W.Frag} {mg : Str → Option Value} {base : Heap} {cs : List (Addr × Addr)}
theorem xc_BadAnswer (F : Fc P w K mg base cs) : ExCls ⟨K, mg, P, w, base, Tb.T⟩ 1 "BadAnswer" "thing" := by
  obtain ⟨fd, D⟩ := F.x_BadAnswer
  obtain ⟨h1, h2, h3, h4⟩ := F.xo_BadAnswer
  exact ⟨_, _, fd, _, F.g_BadAnswer, h1, h2, h3, init_ok D ⟨rfl, rfl, rfl, by decide +kernel, rfl, by decide +kernel, by decide +kernel⟩ h1 h4 (.inl rfl) (.inl rfl) (by decide +kernel) (by decide +kernel), D.bindsN fun _ _ _ _ _ _ us hl => match us, hl with | [_, _], _ => rfl⟩
theorem xc_BadGain (F : Fc P w K mg base cs) : ExCls ⟨K, mg, P, w, base, Tb.T⟩ 1 "BadGain" "gain" := by
  obtain ⟨fd, D⟩ := F.x_BadGain
  obtain ⟨h1, h2, h3, h4⟩ := F.xo_BadGain
  exact ⟨_, _, fd, _, F.g_BadGain, h1, h2, h3, init_ok D ⟨rfl, rfl, rfl, by decide +kernel, rfl, by decide +kernel, by decide +kernel⟩ h1 h4 (.inl rfl) (.inl rfl) (by decide +kernel) (by decide +kernel), D.bindsN fun _ _ _ _ _ _ us hl => match us, hl with | [_, _], _ => rfl⟩
theorem xc_BadMost (F : Fc P w K mg base cs) : ExCls ⟨K, mg, P, w, base, Tb.T⟩ 1 "BadMost" "most" := by
  obtain ⟨fd, D⟩ := F.x_BadMost
  obtain ⟨h1, h2, h3, h4⟩ := F.xo_BadMost
  exact ⟨_, _, fd, _, F.g_BadMost, h1, h2, h3, init_ok D ⟨rfl, rfl, rfl, by decide +kernel, rfl, by decide +kernel, by decide +kernel⟩ h1 h4 (.inl rfl) (.inl rfl) (by decide +kernel) (by decide +kernel), D.bindsN fun _ _ _ _ _ _ us hl => match us, hl with | [_, _], _ => rfl⟩
theorem ev_is_whole (F : Fc P w K mg base cs) {f : Addr} {cdv : Value} {A : Around} {outer : List Env} {s : Shared} {H : Hp} {E : XK} (hT : Tb.T = tabT cs qs) (B : Bd (cxOf (L2.CX P w) P w K mg base ["thing"] "is_whole" (defScope s_is_whole) f cdv A outer s H E) (WR E) 1) : EvB (cxOf (L2.CX P w) P w K mg base ["thing"] "is_whole" (defScope s_is_whole) f cdv A outer s H E) (WR E) (defBody s_is_whole) c_is_whole := 
  (eb_one (es_ret (ev_and (ev_callB (cr_isa2 F.gfn F.isf F.cmf) rfl F.n_isinstance (by decide +kernel) (ea_cons (ev_var 0) (ea_cons (ev_bty rfl F.n_int (by decide +kernel)) ea_nil))) (ev_and1 (ev_not (ev_callB (cr_isa2 F.gfn F.isf F.cmf) rfl F.n_isinstance (by decide +kernel) (ea_cons (ev_var 0) (ea_cons (ev_bty rfl F.n_bool (by decide +kernel)) ea_nil))))))))
theorem fg_is_whole (F : Fc P w K mg base cs) (hT : Tb.T = tabT cs qs) : ∃ fd, FunD K "is_whole" "is_whole" (defArgs s_is_whole) (defBody s_is_whole) (defScope s_is_whole) [] [] (He.ga K "is_whole") fd ∧ FnG ⟨K, mg, P, w, base, Tb.T⟩ 2 (He.ga K "is_whole") fd ["thing"] (spF ⟨K, mg, P, w, base, Tb.T⟩ 1 f_is_whole) := by
  obtain ⟨fd, D⟩ := F.d_is_whole
  exact ⟨fd, D, fn_ok (N := ["thing"]) D ⟨rfl, rfl, rfl, by decide +kernel, rfl, by decide +kernel, by decide +kernel⟩ rfl rfl fun cdv A outer s H E e B => ev_is_whole F hT B⟩
theorem kn_is_whole (F : Fc P w K mg base cs) (hT : Tb.T = tabT cs qs) : Kn ⟨K, mg, P, w, base, Tb.T⟩ 2 "is_whole" 1 f_is_whole := by
  obtain ⟨fd, D, h⟩ := fg_is_whole F hT
  exact kn_of F.g_is_whole D (fun _ _ _ _ _ _ us hl => match us, hl with | [_], _ => rfl) h
theorem ev_is_number (F : Fc P w K mg base cs) {f : Addr} {cdv : Value} {A : Around} {outer : List Env} {s : Shared} {H : Hp} {E : XK} (hT : Tb.T = tabT cs qs) (B : Bd (cxOf (L2.CX P w) P w K mg base ["thing"] "is_number" (defScope s_is_number) f cdv A outer s H E) (WR E) 2) : EvB (cxOf (L2.CX P w) P w K mg base ["thing"] "is_number" (defScope s_is_number) f cdv A outer s H E) (WR E) (defBody s_is_number) c_is_number := 
  (eb_one (es_ret (ev_and (ev_call B.toBe ((kn_is_whole F hT).mono (by decide)) rfl (ea_cons (ev_var 0) ea_nil)) (ev_and1 (ev_cmp ok_ge (ev_var 0) ev_int)))))
theorem fg_is_number (F : Fc P w K mg base cs) (hT : Tb.T = tabT cs qs) : ∃ fd, FunD K "is_number" "is_number" (defArgs s_is_number) (defBody s_is_number) (defScope s_is_number) [] [] (He.ga K "is_number") fd ∧ FnG ⟨K, mg, P, w, base, Tb.T⟩ 3 (He.ga K "is_number") fd ["thing"] (spF ⟨K, mg, P, w, base, Tb.T⟩ 1 f_is_number) := by
  obtain ⟨fd, D⟩ := F.d_is_number
  exact ⟨fd, D, fn_ok (N := ["thing"]) D ⟨rfl, rfl, rfl, by decide +kernel, rfl, by decide +kernel, by decide +kernel⟩ rfl rfl fun cdv A outer s H E e B => ev_is_number F hT B⟩
theorem kn_is_number (F : Fc P w K mg base cs) (hT : Tb.T = tabT cs qs) : Kn ⟨K, mg, P, w, base, Tb.T⟩ 3 "is_number" 1 f_is_number := by
  obtain ⟨fd, D, h⟩ := fg_is_number F hT
  exact kn_of F.g_is_number D (fun _ _ _ _ _ _ us hl => match us, hl with | [_], _ => rfl) h
theorem ev_said (F : Fc P w K mg base cs) {f : Addr} {cdv : Value} {A : Around} {outer : List Env} {s : Shared} {H : Hp} {E : XK} (hT : Tb.T = tabT cs qs) (B : Bd (cxOf (L2.CX P w) P w K mg base ["box", "stock", "wanted", "found"] "said" (defScope s_said) f cdv A outer s H E) (WR E) 5) : EvB (cxOf (L2.CX P w) P w K mg base ["box", "stock", "wanted", "found"] "said" (defScope s_said) f cdv A outer s H E) (WR E) (defBody s_said) c_said := 
  (eb_cons (es_set 3 B.toBe.nd (ev_clo 0 B.toBe (ea_cons (ev_var 1) (ea_cons (ev_var 2) ea_nil))))
  (eb_cons (es_if (et_not (ev_tru (ev_callB (cr_isa2 F.gfn F.isf F.cmf) rfl F.n_isinstance (by decide +kernel) (ea_cons (ev_var 3) (ea_cons (ev_bty rfl F.n_bool (by decide +kernel)) ea_nil)))))
  (eb_one (es_raise B ((xc_BadAnswer F).mono (by decide)) rfl (ev_var 3)))
  eb_nil)
  (eb_one (es_ret (ev_var 3)))))
theorem fg_said (F : Fc P w K mg base cs) (hT : Tb.T = tabT cs qs) : ∃ fd, FunD K "said" "said" (defArgs s_said) (defBody s_said) (defScope s_said) [] [] (He.ga K "said") fd ∧ FnG ⟨K, mg, P, w, base, Tb.T⟩ 6 (He.ga K "said") fd ["box", "stock", "wanted"] (spF ⟨K, mg, P, w, base, Tb.T⟩ 3 f_said) := by
  obtain ⟨fd, D⟩ := F.d_said
  exact ⟨fd, D, fn_ok (N := ["box", "stock", "wanted", "found"]) D ⟨rfl, rfl, rfl, by decide +kernel, rfl, by decide +kernel, by decide +kernel⟩ rfl rfl fun cdv A outer s H E e B => ev_said F hT B⟩
theorem kn_said (F : Fc P w K mg base cs) (hT : Tb.T = tabT cs qs) : Kn ⟨K, mg, P, w, base, Tb.T⟩ 6 "said" 3 f_said := by
  obtain ⟨fd, D, h⟩ := fg_said F hT
  exact kn_of F.g_said D (fun _ _ _ _ _ _ us hl => match us, hl with | [_, _, _], _ => rfl) h
theorem ev_first_so (F : Fc P w K mg base cs) {f : Addr} {cdv : Value} {A : Around} {outer : List Env} {s : Shared} {H : Hp} {E : XK} (hT : Tb.T = tabT cs qs) (B : Bd (cxOf (L2.CX P w) P w K mg base ["low", "high", "is_so", "middle"] "first_so" (defScope s_first_so) f cdv A outer s H E) (WR E) 7) : EvB (cxOf (L2.CX P w) P w K mg base ["low", "high", "is_so", "middle"] "first_so" (defScope s_first_so) f cdv A outer s H E) (WR E) (defBody s_first_so) c_first_so := 
  (eb_cons (es_while B.own (et_cmp ok_lt (ev_var 0) (ev_var 1))
  (eb_cons (es_set 3 B.toBe.nd (ev_bin ok_div (ev_bin ok_add (ev_var 0) (ev_var 1)) ev_int))
  (eb_one (es_if (ev_tru (ev_clo 2 B.toBe (ea_cons (ev_var 3) ea_nil)))
  (eb_one (es_set 1 B.toBe.nd (ev_var 3)))
  (eb_one (es_set 0 B.toBe.nd (ev_bin ok_add (ev_var 3) ev_int)))))))
  (eb_one (es_ret (ev_var 0))))
theorem fg_first_so (F : Fc P w K mg base cs) (hT : Tb.T = tabT cs qs) : ∃ fd, FunD K "first_so" "first_so" (defArgs s_first_so) (defBody s_first_so) (defScope s_first_so) [] [] (He.ga K "first_so") fd ∧ FnG ⟨K, mg, P, w, base, Tb.T⟩ 8 (He.ga K "first_so") fd ["low", "high", "is_so"] (spF ⟨K, mg, P, w, base, Tb.T⟩ 3 f_first_so) := by
  obtain ⟨fd, D⟩ := F.d_first_so
  exact ⟨fd, D, fn_ok (N := ["low", "high", "is_so", "middle"]) D ⟨rfl, rfl, rfl, by decide +kernel, rfl, by decide +kernel, by decide +kernel⟩ rfl rfl fun cdv A outer s H E e B => ev_first_so F hT B⟩
theorem kn_first_so (F : Fc P w K mg base cs) (hT : Tb.T = tabT cs qs) : Kn ⟨K, mg, P, w, base, Tb.T⟩ 8 "first_so" 3 f_first_so := by
  obtain ⟨fd, D, h⟩ := fg_first_so F hT
  exact kn_of F.g_first_so D (fun _ _ _ _ _ _ us hl => match us, hl with | [_, _, _], _ => rfl) h
theorem ev_need_behind (F : Fc P w K mg base cs) {f : Addr} {cdv : Value} {A : Around} {outer : List Env} {s : Shared} {H : Hp} {E : XK} {fd : FuncData} (hl : ∃ c P, cs[0]? = some (c, P) ∧ cdv = .ref c ∧ LamX.TabB base mg c P) (hT : Tb.T = tabT cs qs) (B : Bd (cxOf (L2.CX P w) P w K mg base ["box", "need", "gain", "most"] "need_behind" (defScope s_need_behind) f cdv A outer s H E) (WR E) 8) : EvB (cxOf (L2.CX P w) P w K mg base ["box", "need", "gain", "most"] "need_behind" (defScope s_need_behind) f cdv A outer s H E) (WR E) (defBody s_need_behind) c_need_behind := by
  obtain ⟨c0, P0, hc0, e0, tb0⟩ := hl
  have LM : LmOk (cxOf (L2.CX P w) P w K mg base ["box", "need", "gain", "most"] "need_behind" (defScope s_need_behind) f cdv A outer s H E) := lm_ok (i := 0) hT F.nd hc0 rfl e0 tb0
  exact (eb_one (es_ret (ev_callX B ((kn_first_so F hT).mono (by decide)) rfl (ex_cons (ev_bin ok_add (ev_var 1) ev_int) (ex_cons (ev_bin ok_add (ev_var 3) ev_int) (ex_lam (ps := ["stock"]) (fr := ["box", "gain"]) (js := [0, 2]) LM ⟨lamP_by (by kernel_rfl), (js_by (N := ["box", "need", "gain", "most"]) (fr := ["box", "gain"]) (js := [0, 2]) rfl).1, (js_by (N := ["box", "need", "gain", "most"]) (fr := ["box", "gain"]) (js := [0, 2]) rfl).2, fun _ _ _ _ _ us hl => match us, hl with | [_], _ => rfl, fun A outer s1 H1 E f c' B => (ev_callX B ((kn_said F hT).mono (by decide)) rfl (ex_var 1 (ex_cons (ev_var 0) (ex_cons (ev_bin ok_add (ev_bin ok_add (ev_var 0) (ev_var 2)) ev_int) ex_nil))))⟩ ex_nil))))))
theorem fg_need_behind (F : Fc P w K mg base cs) (hT : Tb.T = tabT cs qs) : ∃ fd, FunD K "need_behind" "need_behind" (defArgs s_need_behind) (defBody s_need_behind) (defScope s_need_behind) [] [] (He.ga K "need_behind") fd ∧ FnG ⟨K, mg, P, w, base, Tb.T⟩ 9 (He.ga K "need_behind") fd ["box", "need", "gain", "most"] (spF ⟨K, mg, P, w, base, Tb.T⟩ 4 f_need_behind) := by
  obtain ⟨fd, D⟩ := F.d_need_behind
  exact ⟨fd, D, fn_ok (N := ["box", "need", "gain", "most"]) D ⟨rfl, rfl, rfl, by decide +kernel, rfl, by decide +kernel, by decide +kernel⟩ rfl rfl fun cdv A outer s H E e B => ev_need_behind (fd := fd) F (by obtain ⟨c, P0, h1, h2, h3⟩ := F.l_need_behind _ D; exact ⟨c, P0, h1, e.trans h2, h3⟩) hT B⟩
theorem kn_need_behind (F : Fc P w K mg base cs) (hT : Tb.T = tabT cs qs) : Kn ⟨K, mg, P, w, base, Tb.T⟩ 9 "need_behind" 4 f_need_behind := by
  obtain ⟨fd, D, h⟩ := fg_need_behind F hT
  exact kn_of F.g_need_behind D (fun _ _ _ _ _ _ us hl => match us, hl with | [_, _, _, _], _ => rfl) h
theorem ev_out_with (F : Fc P w K mg base cs) {f : Addr} {cdv : Value} {A : Around} {outer : List Env} {s : Shared} {H : Hp} {E : XK} {fd : FuncData} (hl : ∃ c P, cs[1]? = some (c, P) ∧ cdv = .ref c ∧ LamX.TabB base mg c P) (hT : Tb.T = tabT cs qs) (B : Bd (cxOf (L2.CX P w) P w K mg base ["box", "need", "least", "great"] "out_with" (defScope s_out_with) f cdv A outer s H E) (WR E) 8) : EvB (cxOf (L2.CX P w) P w K mg base ["box", "need", "least", "great"] "out_with" (defScope s_out_with) f cdv A outer s H E) (WR E) (defBody s_out_with) c_out_with := by
  obtain ⟨c0, P0, hc0, e0, tb0⟩ := hl
  have LM : LmOk (cxOf (L2.CX P w) P w K mg base ["box", "need", "least", "great"] "out_with" (defScope s_out_with) f cdv A outer s H E) := lm_ok (i := 1) hT F.nd hc0 rfl e0 tb0
  exact (eb_one (es_ret (ev_callX B ((kn_first_so F hT).mono (by decide)) rfl (ex_cons (ev_var 2) (ex_cons (ev_var 3) (ex_lam (ps := ["wanted"]) (fr := ["box", "need"]) (js := [0, 1]) LM ⟨lamP_by (by kernel_rfl), (js_by (N := ["box", "need", "least", "great"]) (fr := ["box", "need"]) (js := [0, 1]) rfl).1, (js_by (N := ["box", "need", "least", "great"]) (fr := ["box", "need"]) (js := [0, 1]) rfl).2, fun _ _ _ _ _ us hl => match us, hl with | [_], _ => rfl, fun A outer s1 H1 E f c' B => (ev_not (ev_callX B ((kn_said F hT).mono (by decide)) rfl (ex_var 1 (ex_cons (ev_var 2) (ex_cons (ev_bin ok_add (ev_var 0) ev_int) ex_nil)))))⟩ ex_nil))))))
theorem fg_out_with (F : Fc P w K mg base cs) (hT : Tb.T = tabT cs qs) : ∃ fd, FunD K "out_with" "out_with" (defArgs s_out_with) (defBody s_out_with) (defScope s_out_with) [] [] (He.ga K "out_with") fd ∧ FnG ⟨K, mg, P, w, base, Tb.T⟩ 9 (He.ga K "out_with") fd ["box", "need", "least", "great"] (spF ⟨K, mg, P, w, base, Tb.T⟩ 4 f_out_with) := by
  obtain ⟨fd, D⟩ := F.d_out_with
  exact ⟨fd, D, fn_ok (N := ["box", "need", "least", "great"]) D ⟨rfl, rfl, rfl, by decide +kernel, rfl, by decide +kernel, by decide +kernel⟩ rfl rfl fun cdv A outer s H E e B => ev_out_with (fd := fd) F (by obtain ⟨c, P0, h1, h2, h3⟩ := F.l_out_with _ D; exact ⟨c, P0, h1, e.trans h2, h3⟩) hT B⟩
theorem kn_out_with (F : Fc P w K mg base cs) (hT : Tb.T = tabT cs qs) : Kn ⟨K, mg, P, w, base, Tb.T⟩ 9 "out_with" 4 f_out_with := by
  obtain ⟨fd, D, h⟩ := fg_out_with F hT
  exact kn_of F.g_out_with D (fun _ _ _ _ _ _ us hl => match us, hl with | [_, _, _, _], _ => rfl) h
theorem ev_learned_stairs (F : Fc P w K mg base cs) {f : Addr} {cdv : Value} {A : Around} {outer : List Env} {s : Shared} {H : Hp} {E : XK} {fd : FuncData} (hl : ∃ c P, cs[2]? = some (c, P) ∧ cdv = .ref c ∧ LamX.TabB base mg c P) (hT : Tb.T = tabT cs qs) (B : Bd (cxOf (L2.CX P w) P w K mg base ["box", "most", "gain", "found", "least", "need", "great", "out", "more"] "learned_stairs" (defScope s_learned_stairs) f cdv A outer s H E) (WR E) 9) : EvB (cxOf (L2.CX P w) P w K mg base ["box", "most", "gain", "found", "least", "need", "great", "out", "more"] "learned_stairs" (defScope s_learned_stairs) f cdv A outer s H E) (WR E) (defBody s_learned_stairs) c_learned_stairs := by
  obtain ⟨c0, P0, hc0, e0, tb0⟩ := hl
  have LM : LmOk (cxOf (L2.CX P w) P w K mg base ["box", "most", "gain", "found", "least", "need", "great", "out", "more"] "learned_stairs" (defScope s_learned_stairs) f cdv A outer s H E) := lm_ok (i := 2) hT F.nd hc0 rfl e0 tb0
  exact (eb_cons (es_if (et_not (ev_tru (ev_call B.toBe ((kn_is_number F hT).mono (by decide)) rfl (ea_cons (ev_var 1) ea_nil))))
  (eb_one (es_raise B ((xc_BadMost F).mono (by decide)) rfl (ev_var 1)))
  eb_nil)
  (eb_cons (es_if (et_not (ev_tru (ev_call B.toBe ((kn_is_number F hT).mono (by decide)) rfl (ea_cons (ev_var 2) ea_nil))))
  (eb_one (es_raise B ((xc_BadGain F).mono (by decide)) rfl (ev_var 2)))
  eb_nil)
  (eb_cons (es_par 3 4 B.toBe.calm B.toBe.nd (ea_cons (ev_lst ea_nil) (ea_cons ev_int ea_nil)))
  (eb_cons (es_set 5 B.toBe.nd (ev_callX B ((kn_first_so F hT).mono (by decide)) rfl (ex_cons ev_int (ex_cons (ev_bin ok_add (ev_var 1) ev_int) (ex_lam (ps := ["stock"]) (fr := ["box"]) (js := [0]) LM ⟨lamP_by (by kernel_rfl), (js_by (N := ["box", "most", "gain", "found", "least", "need", "great", "out", "more"]) (fr := ["box"]) (js := [0]) rfl).1, (js_by (N := ["box", "most", "gain", "found", "least", "need", "great", "out", "more"]) (fr := ["box"]) (js := [0]) rfl).2, fun _ _ _ _ _ us hl => match us, hl with | [_], _ => rfl, fun A outer s1 H1 E f c' B => (ev_callX B ((kn_said F hT).mono (by decide)) rfl (ex_var 1 (ex_cons (ev_var 0) (ex_cons ev_int ex_nil))))⟩ ex_nil)))))
  (eb_cons (es_while B.own (et_cmp ok_le (ev_var 5) (ev_var 1))
  (eb_cons (es_set 6 B.toBe.nd (ev_bin ok_add (ev_bin ok_add (ev_var 5) (ev_var 2)) ev_int))
  (eb_cons (es_set 7 B.toBe.nd (ev_callX B ((kn_out_with F hT).mono (by decide)) rfl (ex_var 0 (ex_cons (ev_var 5) (ex_cons (ev_var 4) (ex_cons (ev_var 6) ex_nil))))))
  (eb_cons (es_if (et_cmp (ok_eq B.toBe.u64) (ev_var 7) (ev_var 6))
  (eb_one (es_ret (ev_bin ok_add (ev_var 3) (ev_lst (ea_cons (ev_tup (ea_cons (ev_var 5) (ea_cons ev_non ea_nil))) ea_nil)))))
  eb_nil)
  (eb_cons (es_expr (ev_meth mf_append (ev_var 3) (ea_cons (ev_tup (ea_cons (ev_var 5) (ea_cons (ev_bin ok_sub (ev_var 7) (ev_var 5)) ea_nil))) ea_nil)))
  (eb_cons (es_set 8 B.toBe.nd (ev_callX B ((kn_need_behind F hT).mono (by decide)) rfl (ex_var 0 (ex_cons (ev_var 5) (ex_cons (ev_bin ok_sub (ev_var 7) (ev_var 5)) (ex_cons (ev_var 1) ex_nil))))))
  (eb_cons (es_set 4 B.toBe.nd (ev_bin ok_add (ev_bin ok_sub (ev_bin ok_add (ev_var 8) (ev_var 7)) (ev_var 5)) ev_int))
  (eb_one (es_set 5 B.toBe.nd (ev_var 8))))))))))
  (eb_one (es_ret (ev_var 3))))))))
theorem fg_learned_stairs (F : Fc P w K mg base cs) (hT : Tb.T = tabT cs qs) : ∃ fd, FunD K "learned_stairs" "learned_stairs" (defArgs s_learned_stairs) (defBody s_learned_stairs) (defScope s_learned_stairs) [] [] (He.ga K "learned_stairs") fd ∧ FnG ⟨K, mg, P, w, base, Tb.T⟩ 10 (He.ga K "learned_stairs") fd ["box", "most", "gain"] (spF ⟨K, mg, P, w, base, Tb.T⟩ 3 f_learned_stairs) := by
  obtain ⟨fd, D⟩ := F.d_learned_stairs
  exact ⟨fd, D, fn_ok (N := ["box", "most", "gain", "found", "least", "need", "great", "out", "more"]) D ⟨rfl, rfl, rfl, by decide +kernel, rfl, by decide +kernel, by decide +kernel⟩ rfl rfl fun cdv A outer s H E e B => ev_learned_stairs (fd := fd) F (by obtain ⟨c, P0, h1, h2, h3⟩ := F.l_learned_stairs _ D; exact ⟨c, P0, h1, e.trans h2, h3⟩) hT B⟩
theorem kn_learned_stairs (F : Fc P w K mg base cs) (hT : Tb.T = tabT cs qs) : Kn ⟨K, mg, P, w, base, Tb.T⟩ 10 "learned_stairs" 3 f_learned_stairs := by
  obtain ⟨fd, D, h⟩ := fg_learned_stairs F hT
  exact kn_of F.g_learned_stairs D (fun _ _ _ _ _ _ us hl => match us, hl with | [_, _, _], _ => rfl) h
theorem ev_law_stream (F : Fc P w K mg base cs) {f : Addr} {cdv : Value} {A : Around} {outer : List Env} {s : Shared} {H : Hp} {E : XK} (hT : Tb.T = tabT cs qs) (B : Bd (cxOf (L2.CX P w) P w K mg base ["_law_script"] "_law_stream" (defScope s_law_stream) f cdv A outer s H E) (WR E) 1) : EvB (cxOf (L2.CX P w) P w K mg base ["_law_script"] "_law_stream" (defScope s_law_stream) f cdv A outer s H E) (WR E) (defBody s_law_stream) c_law_stream := 
  (eb_one (es_ret (ev_lst (ea_cons (ev_listScr 0 rfl F.n_list) (ea_cons ev_int (ea_cons ev_int (ea_cons ev_int ea_nil)))))))
theorem fg_law_stream (F : Fc P w K mg base cs) (hT : Tb.T = tabT cs qs) : ∃ fd, FunD K "_law_stream" "_law_stream" (defArgs s_law_stream) (defBody s_law_stream) (defScope s_law_stream) [] [] (He.ga K "_law_stream") fd ∧ FnG ⟨K, mg, P, w, base, Tb.T⟩ 2 (He.ga K "_law_stream") fd ["_law_script"] (spF ⟨K, mg, P, w, base, Tb.T⟩ 1 f_law_stream) := by
  obtain ⟨fd, D⟩ := F.d_law_stream
  exact ⟨fd, D, fn_ok (N := ["_law_script"]) D ⟨rfl, rfl, rfl, by decide +kernel, rfl, by decide +kernel, by decide +kernel⟩ rfl rfl fun cdv A outer s H E e B => ev_law_stream F hT B⟩
theorem kn_law_stream (F : Fc P w K mg base cs) (hT : Tb.T = tabT cs qs) : Kn ⟨K, mg, P, w, base, Tb.T⟩ 2 "_law_stream" 1 f_law_stream := by
  obtain ⟨fd, D, h⟩ := fg_law_stream F hT
  exact kn_of F.g_law_stream D (fun _ _ _ _ _ _ us hl => match us, hl with | [_], _ => rfl) h
theorem ev_law_draw (F : Fc P w K mg base cs) {f : Addr} {cdv : Value} {A : Around} {outer : List Env} {s : Shared} {H : Hp} {E : XK} (hT : Tb.T = tabT cs qs) (B : Bd (cxOf (L2.CX P w) P w K mg base ["_law_stream_here", "_law_many", "_law_cell", "_law_digit", "_law_mixed"] "_law_draw" (defScope s_law_draw) f cdv A outer s H E) (WR E) 1) : EvB (cxOf (L2.CX P w) P w K mg base ["_law_stream_here", "_law_many", "_law_cell", "_law_digit", "_law_mixed"] "_law_draw" (defScope s_law_draw) f cdv A outer s H E) (WR E) (defBody s_law_draw) c_law_draw := 
  (eb_cons (es_asg (ev_bin ok_add (ev_ix (ix_all B.toBe.u64) (ev_var 0) ev_int) ev_int) (eg_sub B.toBe.u64 (ev_var 0) ev_int))
  (eb_cons (es_while B.own (et_w (et_and (et_cmp (ok_eq B.toBe.u64) (ev_ix (ix_all B.toBe.u64) (ev_var 0) ev_int) ev_int) (et_and1 (et_cmp (ok_ne B.toBe.u64) (ev_ix (ix_all B.toBe.u64) (ev_var 0) ev_int) (ev_lst ea_nil)))))
  (eb_cons (es_set 2 B.toBe.nd (ev_callB cr_abs rfl F.n_abs (by decide +kernel) (ea_cons (ev_meth mf_pop1 (ev_ix (ix_all B.toBe.u64) (ev_var 0) ev_int) (ea_cons ev_int ea_nil)) ea_nil)))
  (eb_cons (es_asg (ev_bin ok_mod (ev_callTy cr_int rfl F.n_int (by decide +kernel) (ea_cons (ev_bin ok_add (ev_bin ok_add (ev_bin ok_mul (ev_ix (ix_all B.toBe.u64) (ev_var 0) ev_int) ev_int) (ev_var 2)) ev_int) ea_nil)) ev_int) (eg_sub B.toBe.u64 (ev_var 0) ev_int))
  (eb_one (es_asg (ev_if (et_cmp ok_ge (ev_var 2) (ev_bin ok_pow ev_int ev_int)) (ev_var 2) ev_int) (eg_sub B.toBe.u64 (ev_var 0) ev_int))))))
  (eb_cons (es_if (et_cmp ok_gt (ev_ix (ix_all B.toBe.u64) (ev_var 0) ev_int) ev_int)
  (eb_cons (es_set 3 B.toBe.nd (ev_bin ok_mod (ev_callTy cr_int rfl F.n_int (by decide +kernel) (ea_cons (ev_ix (ix_all B.toBe.u64) (ev_var 0) ev_int) ea_nil)) (ev_var 1)))
  (eb_cons (es_asg (ev_bin ok_div (ev_ix (ix_all B.toBe.u64) (ev_var 0) ev_int) (ev_var 1)) (eg_sub B.toBe.u64 (ev_var 0) ev_int))
  (eb_one (es_ret (ev_var 3)))))
  eb_nil)
  (eb_cons (es_set 4 B.toBe.nd (ev_bin ok_mod (ev_callTy cr_int rfl F.n_int (by decide +kernel) (ea_cons (ev_bin ok_pow (ev_bin ok_add (ev_bin ok_add (ev_ix (ix_all B.toBe.u64) (ev_var 0) ev_int) (ev_bin ok_mul ev_int (ev_ix (ix_all B.toBe.u64) (ev_var 0) ev_int))) ev_int) ev_int) ea_nil)) ev_int))
  (eb_one (es_ret (ev_bin ok_mod (ev_bin ok_mod (ev_callTy cr_int rfl F.n_int (by decide +kernel) (ea_cons (ev_bin ok_pow (ev_bin ok_add (ev_bin ok_add (ev_bin ok_mul (ev_var 4) ev_int) (ev_bin ok_mul ev_int (ev_ix (ix_all B.toBe.u64) (ev_var 0) ev_int))) ev_int) ev_int) ea_nil)) ev_int) (ev_var 1))))))))
theorem fg_law_draw (F : Fc P w K mg base cs) (hT : Tb.T = tabT cs qs) : ∃ fd, FunD K "_law_draw" "_law_draw" (defArgs s_law_draw) (defBody s_law_draw) (defScope s_law_draw) [] [] (He.ga K "_law_draw") fd ∧ FnG ⟨K, mg, P, w, base, Tb.T⟩ 2 (He.ga K "_law_draw") fd ["_law_stream_here", "_law_many"] (spF ⟨K, mg, P, w, base, Tb.T⟩ 2 f_law_draw) := by
  obtain ⟨fd, D⟩ := F.d_law_draw
  exact ⟨fd, D, fn_ok (N := ["_law_stream_here", "_law_many", "_law_cell", "_law_digit", "_law_mixed"]) D ⟨rfl, rfl, rfl, by decide +kernel, rfl, by decide +kernel, by decide +kernel⟩ rfl rfl fun cdv A outer s H E e B => ev_law_draw F hT B⟩
theorem kn_law_draw (F : Fc P w K mg base cs) (hT : Tb.T = tabT cs qs) : Kn ⟨K, mg, P, w, base, Tb.T⟩ 2 "_law_draw" 2 f_law_draw := by
  obtain ⟨fd, D, h⟩ := fg_law_draw F hT
  exact kn_of F.g_law_draw D (fun _ _ _ _ _ _ us hl => match us, hl with | [_, _], _ => rfl) h
theorem ev_law_pick (F : Fc P w K mg base cs) {f : Addr} {cdv : Value} {A : Around} {outer : List Env} {s : Shared} {H : Hp} {E : XK} (hT : Tb.T = tabT cs qs) (B : Bd (cxOf (L2.CX P w) P w K mg base ["_law_stream_here", "_law_things"] "_law_pick" (defScope s_law_pick) f cdv A outer s H E) (WR E) 2) : EvB (cxOf (L2.CX P w) P w K mg base ["_law_stream_here", "_law_things"] "_law_pick" (defScope s_law_pick) f cdv A outer s H E) (WR E) (defBody s_law_pick) c_law_pick := 
  (eb_one (es_ret (ev_ix (ix_all B.toBe.u64) (ev_var 1) (ev_call B.toBe ((kn_law_draw F hT).mono (by decide)) rfl (ea_cons (ev_var 0) (ea_cons (ev_callB cr_len rfl F.n_len (by decide +kernel) (ea_cons (ev_var 1) ea_nil)) ea_nil))))))
theorem fg_law_pick (F : Fc P w K mg base cs) (hT : Tb.T = tabT cs qs) : ∃ fd, FunD K "_law_pick" "_law_pick" (defArgs s_law_pick) (defBody s_law_pick) (defScope s_law_pick) [] [] (He.ga K "_law_pick") fd ∧ FnG ⟨K, mg, P, w, base, Tb.T⟩ 3 (He.ga K "_law_pick") fd ["_law_stream_here", "_law_things"] (spF ⟨K, mg, P, w, base, Tb.T⟩ 2 f_law_pick) := by
  obtain ⟨fd, D⟩ := F.d_law_pick
  exact ⟨fd, D, fn_ok (N := ["_law_stream_here", "_law_things"]) D ⟨rfl, rfl, rfl, by decide +kernel, rfl, by decide +kernel, by decide +kernel⟩ rfl rfl fun cdv A outer s H E e B => ev_law_pick F hT B⟩
theorem kn_law_pick (F : Fc P w K mg base cs) (hT : Tb.T = tabT cs qs) : Kn ⟨K, mg, P, w, base, Tb.T⟩ 3 "_law_pick" 2 f_law_pick := by
  obtain ⟨fd, D, h⟩ := fg_law_pick F hT
  exact kn_of F.g_law_pick D (fun _ _ _ _ _ _ us hl => match us, hl with | [_, _], _ => rfl) h
theorem ev_law_same (F : Fc P w K mg base cs) {f : Addr} {cdv : Value} {A : Around} {outer : List Env} {s : Shared} {H : Hp} {E : XK} {n : Nat} {rc : List SV → AH → R AV} (hrec : Kn ⟨K, mg, P, w, base, Tb.T⟩ (1 + n) "_law_same" 2 rc) (hT : Tb.T = tabT cs qs) (B : Bd (cxOf (L2.CX P w) P w K mg base ["_law_found", "_law_due", "_law_mine", "_law_theirs"] "_law_same" (defScope s_law_same) f cdv A outer s H E) (WR E) (1 + n)) : EvB (cxOf (L2.CX P w) P w K mg base ["_law_found", "_law_due", "_law_mine", "_law_theirs"] "_law_same" (defScope s_law_same) f cdv A outer s H E) (WR E) (defBody s_law_same) (c_law_same n rc) := 
  (eb_cons (es_if (ev_tru (ev_callB (cr_isa2 F.gfn F.isf F.cmf) rfl F.n_isinstance (by decide +kernel) (ea_cons (ev_var 1) (ea_cons (ev_tup (ea_cons (ev_bty rfl F.n_list (by decide +kernel)) (ea_cons (ev_bty rfl F.n_tuple (by decide +kernel)) ea_nil))) ea_nil))))
  (eb_cons (es_if (et_w (et_or (et_cmp (ok_neY (B.toBe.toS (k := 0 + n) (by omega)) F.gfn F.fnd F.isf F.cmf KnEqs.nil) (ev_callB (cr_isa2 F.gfn F.isf F.cmf) rfl F.n_isinstance (by decide +kernel) (ea_cons (ev_var 0) (ea_cons (ev_bty rfl F.n_list (by decide +kernel)) ea_nil))) (ev_callB (cr_isa2 F.gfn F.isf F.cmf) rfl F.n_isinstance (by decide +kernel) (ea_cons (ev_var 1) (ea_cons (ev_bty rfl F.n_list (by decide +kernel)) ea_nil)))) (et_or1 (et_cmp (ok_neY (B.toBe.toS (k := 0 + n) (by omega)) F.gfn F.fnd F.isf F.cmf KnEqs.nil) (ev_callB (cr_isa2 F.gfn F.isf F.cmf) rfl F.n_isinstance (by decide +kernel) (ea_cons (ev_var 0) (ea_cons (ev_bty rfl F.n_tuple (by decide +kernel)) ea_nil))) (ev_callB (cr_isa2 F.gfn F.isf F.cmf) rfl F.n_isinstance (by decide +kernel) (ea_cons (ev_var 1) (ea_cons (ev_bty rfl F.n_tuple (by decide +kernel)) ea_nil)))))))
  (eb_one (es_ret ev_bl))
  eb_nil)
  (eb_one (es_ret (ev_and (ev_cmp (ok_eqX (B.toBe.toS (k := 0 + n) (by omega)) F.gfn F.isf F.cmf KnEqs.nil) (ev_callB cr_len rfl F.n_len (by decide +kernel) (ea_cons (ev_var 0) ea_nil)) (ev_callB cr_len rfl F.n_len (by decide +kernel) (ea_cons (ev_var 1) ea_nil))) (ev_and1 (ev_callB (cr_allA B.toBe.calm) rfl F.n_all (by decide +kernel) (ea_cons (ev_lc B.toBe (ei_zip rfl F.n_zip (ea_cons (ev_var 0) (ea_cons (ev_var 1) ea_nil))) (blkOk_by (own := [("_law_mine", 2), ("_law_theirs", 3)]) (by kernel_rfl)) (fun s H C cl fp => (eo_tup B.toBe.blk.calm (eos_cons (eo_name 2 B.toBe.blk.nd (by decide)) (eos_cons (eo_name 3 B.toBe.blk.nd (by decide)) eos_nil)))) (fun s H C cl fp => pts_nilA) (fun s H C cl fp => (ev_call B.toBe.blk hrec rfl (ea_cons (ev_var 2) (ea_cons (ev_var 3) ea_nil))))) ea_nil)))))))
  eb_nil)
  (eb_cons (es_if (ev_tru (ev_callB (cr_isa2 F.gfn F.isf F.cmf) rfl F.n_isinstance (by decide +kernel) (ea_cons (ev_var 1) (ea_cons (ev_bty rfl F.n_dict (by decide +kernel)) ea_nil))))
  (eb_one (es_ret (ev_and (ev_callB (cr_isa2 F.gfn F.isf F.cmf) rfl F.n_isinstance (by decide +kernel) (ea_cons (ev_var 0) (ea_cons (ev_bty rfl F.n_dict (by decide +kernel)) ea_nil))) (ev_and1 (ev_call B.toBe hrec rfl (ea_cons (ev_listItems B.toBe.calm (ev_var 0) rfl F.n_list) (ea_cons (ev_listItems B.toBe.calm (ev_var 1) rfl F.n_list) ea_nil)))))))
  eb_nil)
  (eb_cons (es_if (et_w (et_or (ev_tru (ev_callB (cr_isa2 F.gfn F.isf F.cmf) rfl F.n_isinstance (by decide +kernel) (ea_cons (ev_var 1) (ea_cons (ev_bty rfl F.n_bool (by decide +kernel)) ea_nil)))) (et_or1 (ev_tru (ev_callB (cr_isa2 F.gfn F.isf F.cmf) rfl F.n_isinstance (by decide +kernel) (ea_cons (ev_var 0) (ea_cons (ev_bty rfl F.n_bool (by decide +kernel)) ea_nil)))))))
  (eb_one (es_ret (ev_and (ev_callB (cr_isa2 F.gfn F.isf F.cmf) rfl F.n_isinstance (by decide +kernel) (ea_cons (ev_var 1) (ea_cons (ev_bty rfl F.n_bool (by decide +kernel)) ea_nil))) (ev_and (ev_callB (cr_isa2 F.gfn F.isf F.cmf) rfl F.n_isinstance (by decide +kernel) (ea_cons (ev_var 0) (ea_cons (ev_bty rfl F.n_bool (by decide +kernel)) ea_nil))) (ev_and1 (ev_cmp (ok_eqX (B.toBe.toS (k := 0 + n) (by omega)) F.gfn F.isf F.cmf KnEqs.nil) (ev_var 0) (ev_var 1)))))))
  eb_nil)
  (eb_one (es_ret (ev_and (ev_not (ev_callB (cr_isa2 F.gfn F.isf F.cmf) rfl F.n_isinstance (by decide +kernel) (ea_cons (ev_var 0) (ea_cons (ev_tup (ea_cons (ev_bty rfl F.n_list (by decide +kernel)) (ea_cons (ev_bty rfl F.n_tuple (by decide +kernel)) (ea_cons (ev_bty rfl F.n_dict (by decide +kernel)) ea_nil)))) ea_nil)))) (ev_and1 (ev_cmp (ok_eqX (B.toBe.toS (k := 0 + n) (by omega)) F.gfn F.isf F.cmf KnEqs.nil) (ev_var 0) (ev_var 1)))))))))
theorem fg_law_same (F : Fc P w K mg base cs) (hT : Tb.T = tabT cs qs) {n : Nat} (hrec : Kn ⟨K, mg, P, w, base, Tb.T⟩ (1 + n) "_law_same" 2 (f_law_same n)) : ∃ fd, FunD K "_law_same" "_law_same" (defArgs s_law_same) (defBody s_law_same) (defScope s_law_same) [] [] (He.ga K "_law_same") fd ∧ FnG ⟨K, mg, P, w, base, Tb.T⟩ (1 + n + 1) (He.ga K "_law_same") fd ["_law_found", "_law_due"] (spF ⟨K, mg, P, w, base, Tb.T⟩ 2 (f_law_same (n + 1))) := by
  obtain ⟨fd, D⟩ := F.d_law_same
  exact ⟨fd, D, fn_ok (N := ["_law_found", "_law_due", "_law_mine", "_law_theirs"]) D ⟨rfl, rfl, rfl, by decide +kernel, rfl, by decide +kernel, by decide +kernel⟩ rfl rfl fun cdv A outer s H E e B => ev_law_same F hrec hT B⟩
theorem kn_law_same (F : Fc P w K mg base cs) (hT : Tb.T = tabT cs qs) : ∀ n : Nat, Kn ⟨K, mg, P, w, base, Tb.T⟩ (1 + n) "_law_same" 2 (f_law_same n)
  | 0 => by
    obtain ⟨fd, D⟩ := F.d_law_same
    exact kn_bad (ps := ["_law_found", "_law_due"]) F.g_law_same D (fun _ _ _ _ _ _ us hl => match us, hl with | [_, _], _ => rfl)
  | n + 1 => by
    obtain ⟨fd, D, h⟩ := fg_law_same F hT (kn_law_same F hT n)
    exact kn_of F.g_law_same D (fun _ _ _ _ _ _ us hl => match us, hl with | [_, _], _ => rfl) h
theorem ev_law_up (F : Fc P w K mg base cs) {f : Addr} {cdv : Value} {A : Around} {outer : List Env} {s : Shared} {H : Hp} {E : XK} (hT : Tb.T = tabT cs qs) (B : Bd (cxOf (L2.CX P w) P w K mg base ["_law_pairs", "_law_some", "_law_found", "_law_pair", "_law_need", "_law_endless", "_law_gain", "_law_one"] "_law_up" (defScope s_law_up) f cdv A outer s H E) (WR E) 1) : EvB (cxOf (L2.CX P w) P w K mg base ["_law_pairs", "_law_some", "_law_found", "_law_pair", "_law_need", "_law_endless", "_law_gain", "_law_one"] "_law_up" (defScope s_law_up) f cdv A outer s H E) (WR E) (defBody s_law_up) c_law_up := 
  (eb_cons (es_par 1 2 B.toBe.calm B.toBe.nd (ea_cons (ev_lc B.toBe (ei_val (ev_var 0)) (blkOk_by (own := [("_law_pair", 3)]) (by kernel_rfl)) (fun s H C cl fp => (eo_name 3 B.toBe.blk.nd (by decide))) (fun s H C cl fp => pts_nilA) (fun s H C cl fp => (ev_tup (ea_cons (ev_ix (ix_all B.toBe.blk.u64) (ev_var 3) ev_int) (ea_cons (ev_callTy cr_int rfl F.n_int (by decide +kernel) (ea_cons (ev_cmp ok_is (ev_ix (ix_all B.toBe.blk.u64) (ev_var 3) ev_int) ev_non) ea_nil)) (ea_cons (ev_if (et_cmp ok_is (ev_ix (ix_all B.toBe.blk.u64) (ev_var 3) ev_int) ev_non) ev_int (ev_ix (ix_all B.toBe.blk.u64) (ev_var 3) ev_int)) ea_nil)))))) (ea_cons (ev_lst ea_nil) ea_nil)))
  (eb_cons (es_for B.own B.toBe.calm (ei_val (ev_callB (cr_sorted B.toBe) rfl F.n_sorted (by decide +kernel) (ea_cons (ev_var 1) ea_nil))) (eg_tup B.toBe.calm (egs_cons (eg_name 4 B.toBe.nd) (egs_cons (eg_name 5 B.toBe.nd) (egs_cons (eg_name 6 B.toBe.nd) egs_nil))))
  (eb_one (es_if (et_w (et_or (et_cmp (ok_eqX B.toBe F.gfn F.isf F.cmf KnEqs.nil) (ev_var 2) (ev_lst ea_nil)) (et_or1 (et_cmp (ok_gtD B.toBe.u64) (ev_tup (ea_cons (ev_var 5) (ea_cons (ev_var 6) ea_nil))) (ev_slice (ev_ix (ix_all B.toBe.u64) (ev_var 2) (ev_un ok_neg ev_int)) (eo_some ev_int) eo_none)))))
  (eb_one (es_set 2 B.toBe.nd (ev_bin ok_add (ev_lc B.toBe (ei_val (ev_var 2)) (blkOk_by (own := [("_law_one", 7)]) (by kernel_rfl)) (fun s H C cl fp => (eo_name 7 B.toBe.blk.nd (by decide))) (fun s H C cl fp => (pts_oneA (et_cmp ok_lt (ev_ix (ix_all B.toBe.blk.u64) (ev_var 7) ev_int) (ev_var 4)))) (fun s H C cl fp => (ev_var 7))) (ev_lst (ea_cons (ev_tup (ea_cons (ev_var 4) (ea_cons (ev_var 5) (ea_cons (ev_var 6) ea_nil)))) ea_nil)))))
  eb_nil)))
  (eb_one (es_ret (ev_lc B.toBe (ei_val (ev_var 2)) (blkOk_by (own := [("_law_need", 4), ("_law_endless", 5), ("_law_gain", 6)]) (by kernel_rfl)) (fun s H C cl fp => (eo_tup B.toBe.blk.calm (eos_cons (eo_name 4 B.toBe.blk.nd (by decide)) (eos_cons (eo_name 5 B.toBe.blk.nd (by decide)) (eos_cons (eo_name 6 B.toBe.blk.nd (by decide)) eos_nil))))) (fun s H C cl fp => pts_nilA) (fun s H C cl fp => (ev_tup (ea_cons (ev_var 4) (ea_cons (ev_if (et_cmp (ok_eqX B.toBe.blk F.gfn F.isf F.cmf KnEqs.nil) (ev_var 5) ev_int) ev_non (ev_var 6)) ea_nil)))))))))
theorem fg_law_up (F : Fc P w K mg base cs) (hT : Tb.T = tabT cs qs) : ∃ fd, FunD K "_law_up" "_law_up" (defArgs s_law_up) (defBody s_law_up) (defScope s_law_up) [] [] (He.ga K "_law_up") fd ∧ FnG ⟨K, mg, P, w, base, Tb.T⟩ 2 (He.ga K "_law_up") fd ["_law_pairs"] (spF ⟨K, mg, P, w, base, Tb.T⟩ 1 f_law_up) := by
  obtain ⟨fd, D⟩ := F.d_law_up
  exact ⟨fd, D, fn_ok (N := ["_law_pairs", "_law_some", "_law_found", "_law_pair", "_law_need", "_law_endless", "_law_gain", "_law_one"]) D ⟨rfl, rfl, rfl, by decide +kernel, rfl, by decide +kernel, by decide +kernel⟩ rfl rfl fun cdv A outer s H E e B => ev_law_up F hT B⟩
theorem kn_law_up (F : Fc P w K mg base cs) (hT : Tb.T = tabT cs qs) : Kn ⟨K, mg, P, w, base, Tb.T⟩ 2 "_law_up" 1 f_law_up := by
  obtain ⟨fd, D, h⟩ := fg_law_up F hT
  exact kn_of F.g_law_up D (fun _ _ _ _ _ _ us hl => match us, hl with | [_], _ => rfl) h
theorem ev_law_is_list (F : Fc P w K mg base cs) {f : Addr} {cdv : Value} {A : Around} {outer : List Env} {s : Shared} {H : Hp} {E : XK} (hT : Tb.T = tabT cs qs) (B : Bd (cxOf (L2.CX P w) P w K mg base ["_law_thing"] "_law_is_list" (defScope s_law_is_list) f cdv A outer s H E) (WR E) 1) : EvB (cxOf (L2.CX P w) P w K mg base ["_law_thing"] "_law_is_list" (defScope s_law_is_list) f cdv A outer s H E) (WR E) (defBody s_law_is_list) c_law_is_list := 
  (eb_one (es_ret (ev_callB (cr_isa2 F.gfn F.isf F.cmf) rfl F.n_isinstance (by decide +kernel) (ea_cons (ev_var 0) (ea_cons (ev_tup (ea_cons (ev_bty rfl F.n_list (by decide +kernel)) (ea_cons (ev_bty rfl F.n_tuple (by decide +kernel)) ea_nil))) ea_nil)))))
theorem fg_law_is_list (F : Fc P w K mg base cs) (hT : Tb.T = tabT cs qs) : ∃ fd, FunD K "_law_is_list" "_law_is_list" (defArgs s_law_is_list) (defBody s_law_is_list) (defScope s_law_is_list) [] [] (He.ga K "_law_is_list") fd ∧ FnG ⟨K, mg, P, w, base, Tb.T⟩ 2 (He.ga K "_law_is_list") fd ["_law_thing"] (spF ⟨K, mg, P, w, base, Tb.T⟩ 1 f_law_is_list) := by
  obtain ⟨fd, D⟩ := F.d_law_is_list
  exact ⟨fd, D, fn_ok (N := ["_law_thing"]) D ⟨rfl, rfl, rfl, by decide +kernel, rfl, by decide +kernel, by decide +kernel⟩ rfl rfl fun cdv A outer s H E e B => ev_law_is_list F hT B⟩
theorem kn_law_is_list (F : Fc P w K mg base cs) (hT : Tb.T = tabT cs qs) : Kn ⟨K, mg, P, w, base, Tb.T⟩ 2 "_law_is_list" 1 f_law_is_list := by
  obtain ⟨fd, D, h⟩ := fg_law_is_list F hT
  exact kn_of F.g_law_is_list D (fun _ _ _ _ _ _ us hl => match us, hl with | [_], _ => rfl) h
theorem ev_law_is_whole (F : Fc P w K mg base cs) {f : Addr} {cdv : Value} {A : Around} {outer : List Env} {s : Shared} {H : Hp} {E : XK} (hT : Tb.T = tabT cs qs) (B : Bd (cxOf (L2.CX P w) P w K mg base ["_law_thing"] "_law_is_whole" (defScope s_law_is_whole) f cdv A outer s H E) (WR E) 1) : EvB (cxOf (L2.CX P w) P w K mg base ["_law_thing"] "_law_is_whole" (defScope s_law_is_whole) f cdv A outer s H E) (WR E) (defBody s_law_is_whole) c_law_is_whole := 
  (eb_one (es_ret (ev_and (ev_callB (cr_isa2 F.gfn F.isf F.cmf) rfl F.n_isinstance (by decide +kernel) (ea_cons (ev_var 0) (ea_cons (ev_bty rfl F.n_int (by decide +kernel)) ea_nil))) (ev_and1 (ev_not (ev_callB (cr_isa2 F.gfn F.isf F.cmf) rfl F.n_isinstance (by decide +kernel) (ea_cons (ev_var 0) (ea_cons (ev_bty rfl F.n_bool (by decide +kernel)) ea_nil))))))))
theorem fg_law_is_whole (F : Fc P w K mg base cs) (hT : Tb.T = tabT cs qs) : ∃ fd, FunD K "_law_is_whole" "_law_is_whole" (defArgs s_law_is_whole) (defBody s_law_is_whole) (defScope s_law_is_whole) [] [] (He.ga K "_law_is_whole") fd ∧ FnG ⟨K, mg, P, w, base, Tb.T⟩ 2 (He.ga K "_law_is_whole") fd ["_law_thing"] (spF ⟨K, mg, P, w, base, Tb.T⟩ 1 f_law_is_whole) := by
  obtain ⟨fd, D⟩ := F.d_law_is_whole
  exact ⟨fd, D, fn_ok (N := ["_law_thing"]) D ⟨rfl, rfl, rfl, by decide +kernel, rfl, by decide +kernel, by decide +kernel⟩ rfl rfl fun cdv A outer s H E e B => ev_law_is_whole F hT B⟩
theorem kn_law_is_whole (F : Fc P w K mg base cs) (hT : Tb.T = tabT cs qs) : Kn ⟨K, mg, P, w, base, Tb.T⟩ 2 "_law_is_whole" 1 f_law_is_whole := by
  obtain ⟨fd, D, h⟩ := fg_law_is_whole F hT
  exact kn_of F.g_law_is_whole D (fun _ _ _ _ _ _ us hl => match us, hl with | [_], _ => rfl) h
theorem ev_law_is_stair (F : Fc P w K mg base cs) {f : Addr} {cdv : Value} {A : Around} {outer : List Env} {s : Shared} {H : Hp} {E : XK} (hT : Tb.T = tabT cs qs) (B : Bd (cxOf (L2.CX P w) P w K mg base ["_law_pair"] "_law_is_stair" (defScope s_law_is_stair) f cdv A outer s H E) (WR E) 2) : EvB (cxOf (L2.CX P w) P w K mg base ["_law_pair"] "_law_is_stair" (defScope s_law_is_stair) f cdv A outer s H E) (WR E) (defBody s_law_is_stair) c_law_is_stair := 
  (eb_cons (es_if (et_w (et_or (et_not (ev_tru (ev_call B.toBe ((kn_law_is_list F hT).mono (by decide)) rfl (ea_cons (ev_var 0) ea_nil)))) (et_or (et_cmp (ok_neY B.toBe F.gfn F.fnd F.isf F.cmf KnEqs.nil) (ev_callB cr_len rfl F.n_len (by decide +kernel) (ea_cons (ev_var 0) ea_nil)) ev_int) (et_or (et_not (ev_tru (ev_call B.toBe ((kn_law_is_whole F hT).mono (by decide)) rfl (ea_cons (ev_ix (ix_all B.toBe.u64) (ev_var 0) ev_int) ea_nil)))) (et_or1 (et_cmp ok_lt (ev_ix (ix_all B.toBe.u64) (ev_var 0) ev_int) ev_int))))))
  (eb_one (es_ret ev_bl))
  eb_nil)
  (eb_one (es_ret (ev_or (ev_cmp ok_is (ev_ix (ix_all B.toBe.u64) (ev_var 0) ev_int) ev_non) (ev_and1 (ev_and (ev_call B.toBe ((kn_law_is_whole F hT).mono (by decide)) rfl (ea_cons (ev_ix (ix_all B.toBe.u64) (ev_var 0) ev_int) ea_nil)) (ev_and1 (ev_cmp ok_ge (ev_bin ok_add (ev_ix (ix_all B.toBe.u64) (ev_var 0) ev_int) (ev_ix (ix_all B.toBe.u64) (ev_var 0) ev_int)) ev_int))))))))
theorem fg_law_is_stair (F : Fc P w K mg base cs) (hT : Tb.T = tabT cs qs) : ∃ fd, FunD K "_law_is_stair" "_law_is_stair" (defArgs s_law_is_stair) (defBody s_law_is_stair) (defScope s_law_is_stair) [] [] (He.ga K "_law_is_stair") fd ∧ FnG ⟨K, mg, P, w, base, Tb.T⟩ 3 (He.ga K "_law_is_stair") fd ["_law_pair"] (spF ⟨K, mg, P, w, base, Tb.T⟩ 1 f_law_is_stair) := by
  obtain ⟨fd, D⟩ := F.d_law_is_stair
  exact ⟨fd, D, fn_ok (N := ["_law_pair"]) D ⟨rfl, rfl, rfl, by decide +kernel, rfl, by decide +kernel, by decide +kernel⟩ rfl rfl fun cdv A outer s H E e B => ev_law_is_stair F hT B⟩
theorem kn_law_is_stair (F : Fc P w K mg base cs) (hT : Tb.T = tabT cs qs) : Kn ⟨K, mg, P, w, base, Tb.T⟩ 3 "_law_is_stair" 1 f_law_is_stair := by
  obtain ⟨fd, D, h⟩ := fg_law_is_stair F hT
  exact kn_of F.g_law_is_stair D (fun _ _ _ _ _ _ us hl => match us, hl with | [_], _ => rfl) h
theorem ev_law_are_stairs (F : Fc P w K mg base cs) {f : Addr} {cdv : Value} {A : Around} {outer : List Env} {s : Shared} {H : Hp} {E : XK} (hT : Tb.T = tabT cs qs) (B : Bd (cxOf (L2.CX P w) P w K mg base ["_law_some", "_law_pair"] "_law_are_stairs" (defScope s_law_are_stairs) f cdv A outer s H E) (WR E) 3) : EvB (cxOf (L2.CX P w) P w K mg base ["_law_some", "_law_pair"] "_law_are_stairs" (defScope s_law_are_stairs) f cdv A outer s H E) (WR E) (defBody s_law_are_stairs) c_law_are_stairs := 
  (eb_one (es_ret (ev_and (ev_callB (cr_allA B.toBe.calm) rfl F.n_all (by decide +kernel) (ea_cons (ev_lc B.toBe (ei_val (ev_var 0)) (blkOk_by (own := [("_law_pair", 1)]) (by kernel_rfl)) (fun s H C cl fp => (eo_name 1 B.toBe.blk.nd (by decide))) (fun s H C cl fp => pts_nilA) (fun s H C cl fp => (ev_call B.toBe.blk ((kn_law_is_stair F hT).mono (by decide)) rfl (ea_cons (ev_var 1) ea_nil)))) ea_nil)) (ev_and1 (ev_cmp (ok_eqX B.toBe F.gfn F.isf F.cmf KnEqs.nil) (ev_call B.toBe ((kn_law_up F hT).mono (by decide)) rfl (ea_cons (ev_var 0) ea_nil)) (ev_lc B.toBe (ei_val (ev_var 0)) (blkOk_by (own := [("_law_pair", 1)]) (by kernel_rfl)) (fun s H C cl fp => (eo_name 1 B.toBe.blk.nd (by decide))) (fun s H C cl fp => pts_nilA) (fun s H C cl fp => (ev_callTy cr_tuple rfl F.n_tuple (by decide +kernel) (ea_cons (ev_var 1) ea_nil)))))))))
theorem fg_law_are_stairs (F : Fc P w K mg base cs) (hT : Tb.T = tabT cs qs) : ∃ fd, FunD K "_law_are_stairs" "_law_are_stairs" (defArgs s_law_are_stairs) (defBody s_law_are_stairs) (defScope s_law_are_stairs) [] [] (He.ga K "_law_are_stairs") fd ∧ FnG ⟨K, mg, P, w, base, Tb.T⟩ 4 (He.ga K "_law_are_stairs") fd ["_law_some"] (spF ⟨K, mg, P, w, base, Tb.T⟩ 1 f_law_are_stairs) := by
  obtain ⟨fd, D⟩ := F.d_law_are_stairs
  exact ⟨fd, D, fn_ok (N := ["_law_some", "_law_pair"]) D ⟨rfl, rfl, rfl, by decide +kernel, rfl, by decide +kernel, by decide +kernel⟩ rfl rfl fun cdv A outer s H E e B => ev_law_are_stairs F hT B⟩
theorem kn_law_are_stairs (F : Fc P w K mg base cs) (hT : Tb.T = tabT cs qs) : Kn ⟨K, mg, P, w, base, Tb.T⟩ 4 "_law_are_stairs" 1 f_law_are_stairs := by
  obtain ⟨fd, D, h⟩ := fg_law_are_stairs F hT
  exact kn_of F.g_law_are_stairs D (fun _ _ _ _ _ _ us hl => match us, hl with | [_], _ => rfl) h
theorem ev_law_out (F : Fc P w K mg base cs) {f : Addr} {cdv : Value} {A : Around} {outer : List Env} {s : Shared} {H : Hp} {E : XK} (hT : Tb.T = tabT cs qs) (B : Bd (cxOf (L2.CX P w) P w K mg base ["_law_stairs", "_law_stock", "_law_some", "_law_pair"] "_law_out" (defScope s_law_out) f cdv A outer s H E) (WR E) 1) : EvB (cxOf (L2.CX P w) P w K mg base ["_law_stairs", "_law_stock", "_law_some", "_law_pair"] "_law_out" (defScope s_law_out) f cdv A outer s H E) (WR E) (defBody s_law_out) c_law_out := 
  (eb_cons (es_setLc 2 B.toBe (ei_val (ev_var 0)) (blkOk_by (own := [("_law_pair", 3)]) (by kernel_rfl)) (fun s H C cl fp => (eo_name 3 B.toBe.blk.nd (by decide))) (fun s H C cl fp => (pts_oneA (et_cmp ok_le (ev_ix (ix_all B.toBe.blk.u64) (ev_var 3) ev_int) (ev_var 1)))) (fun s H C cl fp => (ev_ix (ix_all B.toBe.blk.u64) (ev_var 3) ev_int)))
  (eb_cons (es_if (et_cmp (ok_eqX B.toBe F.gfn F.isf F.cmf KnEqs.nil) (ev_var 2) (ev_lst ea_nil))
  (eb_one (es_ret (ev_un ok_neg ev_int)))
  eb_nil)
  (eb_one (es_ret (ev_if (et_cmp ok_is (ev_ix (ix_all B.toBe.u64) (ev_var 2) (ev_un ok_neg ev_int)) ev_non) ev_non (ev_bin ok_add (ev_var 1) (ev_ix (ix_all B.toBe.u64) (ev_var 2) (ev_un ok_neg ev_int))))))))
theorem fg_law_out (F : Fc P w K mg base cs) (hT : Tb.T = tabT cs qs) : ∃ fd, FunD K "_law_out" "_law_out" (defArgs s_law_out) (defBody s_law_out) (defScope s_law_out) [] [] (He.ga K "_law_out") fd ∧ FnG ⟨K, mg, P, w, base, Tb.T⟩ 2 (He.ga K "_law_out") fd ["_law_stairs", "_law_stock"] (spF ⟨K, mg, P, w, base, Tb.T⟩ 2 f_law_out) := by
  obtain ⟨fd, D⟩ := F.d_law_out
  exact ⟨fd, D, fn_ok (N := ["_law_stairs", "_law_stock", "_law_some", "_law_pair"]) D ⟨rfl, rfl, rfl, by decide +kernel, rfl, by decide +kernel, by decide +kernel⟩ rfl rfl fun cdv A outer s H E e B => ev_law_out F hT B⟩
theorem kn_law_out (F : Fc P w K mg base cs) (hT : Tb.T = tabT cs qs) : Kn ⟨K, mg, P, w, base, Tb.T⟩ 2 "_law_out" 2 f_law_out := by
  obtain ⟨fd, D, h⟩ := fg_law_out F hT
  exact kn_of F.g_law_out D (fun _ _ _ _ _ _ us hl => match us, hl with | [_, _], _ => rfl) h
theorem ev_law_any_answer (F : Fc P w K mg base cs) {f : Addr} {cdv : Value} {A : Around} {outer : List Env} {s : Shared} {H : Hp} {E : XK} (hT : Tb.T = tabT cs qs) (B : Bd (cxOf (L2.CX P w) P w K mg base ["_law_log", "_law_stream_here", "_law_way", "_law_border", "_law_stock", "_law_wanted", "_law_told"] "_law_any_answer" (defScope s_law_any_answer) f cdv A outer s H E) (WR E) 2) : EvB (cxOf (L2.CX P w) P w K mg base ["_law_log", "_law_stream_here", "_law_way", "_law_border", "_law_stock", "_law_wanted", "_law_told"] "_law_any_answer" (defScope s_law_any_answer) f cdv A outer s H E) (WR E) (defBody s_law_any_answer) c_law_any_answer := 
  (eb_cons (es_asg (ev_slice (ev_ix (ix_all B.toBe.u64) (ev_var 0) (ev_un ok_neg ev_int)) eo_none (eo_some ev_int)) (eg_tup B.toBe.calm (egs_cons (eg_name 4 B.toBe.nd) (egs_cons (eg_name 5 B.toBe.nd) egs_nil))))
  (eb_cons (es_if (et_cmp (ok_eqX B.toBe F.gfn F.isf F.cmf KnEqs.nil) (ev_var 2) ev_int)
  (eb_one (es_set 6 B.toBe.nd (ev_cmp (ok_eqX B.toBe F.gfn F.isf F.cmf KnEqs.nil) (ev_call B.toBe ((kn_law_draw F hT).mono (by decide)) rfl (ea_cons (ev_var 1) (ea_cons ev_int ea_nil))) ev_int)))
  (eb_one (es_if (et_cmp (ok_eqX B.toBe F.gfn F.isf F.cmf KnEqs.nil) (ev_var 2) ev_int)
  (eb_one (es_set 6 B.toBe.nd (ev_cmp ok_gt (ev_call B.toBe ((kn_law_draw F hT).mono (by decide)) rfl (ea_cons (ev_var 1) (ea_cons ev_int ea_nil))) ev_int)))
  (eb_one (es_if (et_cmp (ok_eqX B.toBe F.gfn F.isf F.cmf KnEqs.nil) (ev_var 2) ev_int)
  (eb_one (es_set 6 B.toBe.nd (ev_cmp (ok_eqX B.toBe F.gfn F.isf F.cmf KnEqs.nil) (ev_call B.toBe ((kn_law_draw F hT).mono (by decide)) rfl (ea_cons (ev_var 1) (ea_cons ev_int ea_nil))) ev_int)))
  (eb_one (es_if (et_cmp (ok_eqX B.toBe F.gfn F.isf F.cmf KnEqs.nil) (ev_var 2) ev_int)
  (eb_one (es_set 6 B.toBe.nd (ev_cmp (ok_eqX B.toBe F.gfn F.isf F.cmf KnEqs.nil) (ev_bin ok_mod (ev_callB cr_len rfl F.n_len (by decide +kernel) (ea_cons (ev_var 0) ea_nil)) ev_int) ev_int)))
  (eb_one (es_set 6 B.toBe.nd (ev_cmp ok_ge (ev_bin ok_add (ev_bin ok_mul ev_int (ev_var 4)) (ev_var 3)) (ev_var 5)))))))))))
  (eb_cons (es_asg (ev_tup (ea_cons (ev_var 4) (ea_cons (ev_var 5) (ea_cons (ev_var 6) ea_nil)))) (eg_sub B.toBe.u64 (ev_var 0) (ev_un ok_neg ev_int)))
  (eb_one (es_ret (ev_var 6))))))
theorem fg_law_any_answer (F : Fc P w K mg base cs) (hT : Tb.T = tabT cs qs) : ∃ fd, FunD K "_law_any_answer" "_law_any_answer" (defArgs s_law_any_answer) (defBody s_law_any_answer) (defScope s_law_any_answer) [] [] (He.ga K "_law_any_answer") fd ∧ FnG ⟨K, mg, P, w, base, Tb.T⟩ 3 (He.ga K "_law_any_answer") fd ["_law_log", "_law_stream_here", "_law_way", "_law_border"] (spF ⟨K, mg, P, w, base, Tb.T⟩ 4 f_law_any_answer) := by
  obtain ⟨fd, D⟩ := F.d_law_any_answer
  exact ⟨fd, D, fn_ok (N := ["_law_log", "_law_stream_here", "_law_way", "_law_border", "_law_stock", "_law_wanted", "_law_told"]) D ⟨rfl, rfl, rfl, by decide +kernel, rfl, by decide +kernel, by decide +kernel⟩ rfl rfl fun cdv A outer s H E e B => ev_law_any_answer F hT B⟩
theorem kn_law_any_answer (F : Fc P w K mg base cs) (hT : Tb.T = tabT cs qs) : Kn ⟨K, mg, P, w, base, Tb.T⟩ 3 "_law_any_answer" 4 f_law_any_answer := by
  obtain ⟨fd, D, h⟩ := fg_law_any_answer F hT
  exact kn_of F.g_law_any_answer D (fun _ _ _ _ _ _ us hl => match us, hl with | [_, _, _, _], _ => rfl) h
theorem ev_law_box (F : Fc P w K mg base cs) {f : Addr} {cdv : Value} {A : Around} {outer : List Env} {s : Shared} {H : Hp} {E : XK} (hT : Tb.T = tabT cs qs) (B : Bd (cxOf (L2.CX P w) P w K mg base ["_law_log", "_law_stream_here", "_law_way", "_law_border", "_law_stock", "_law_wanted"] "_law_box" (defScope s_law_box) f cdv A outer s H E) (WR E) 3) : EvB (cxOf (L2.CX P w) P w K mg base ["_law_log", "_law_stream_here", "_law_way", "_law_border", "_law_stock", "_law_wanted"] "_law_box" (defScope s_law_box) f cdv A outer s H E) (WR E) (defBody s_law_box) c_law_box := 
  (eb_cons (es_expr (ev_meth mf_append (ev_var 0) (ea_cons (ev_tup (ea_cons (ev_var 4) (ea_cons (ev_var 5) (ea_cons ev_non ea_nil)))) ea_nil)))
  (eb_one (es_ret (ev_call B.toBe ((kn_law_any_answer F hT).mono (by decide)) rfl (ea_cons (ev_var 0) (ea_cons (ev_var 1) (ea_cons (ev_var 2) (ea_cons (ev_var 3) ea_nil))))))))
theorem fg_law_box (F : Fc P w K mg base cs) (hT : Tb.T = tabT cs qs) : ∃ fd, FunD K "_law_box" "_law_box" (defArgs s_law_box) (defBody s_law_box) (defScope s_law_box) [] [] (He.ga K "_law_box") fd ∧ FnG ⟨K, mg, P, w, base, Tb.T⟩ 4 (He.ga K "_law_box") fd ["_law_log", "_law_stream_here", "_law_way", "_law_border", "_law_stock", "_law_wanted"] (spF ⟨K, mg, P, w, base, Tb.T⟩ 6 f_law_box) := by
  obtain ⟨fd, D⟩ := F.d_law_box
  exact ⟨fd, D, fn_ok (N := ["_law_log", "_law_stream_here", "_law_way", "_law_border", "_law_stock", "_law_wanted"]) D ⟨rfl, rfl, rfl, by decide +kernel, rfl, by decide +kernel, by decide +kernel⟩ rfl rfl fun cdv A outer s H E e B => ev_law_box F hT B⟩
theorem kn_law_box (F : Fc P w K mg base cs) (hT : Tb.T = tabT cs qs) : Kn ⟨K, mg, P, w, base, Tb.T⟩ 4 "_law_box" 6 f_law_box := by
  obtain ⟨fd, D, h⟩ := fg_law_box F hT
  exact kn_of F.g_law_box D (fun _ _ _ _ _ _ us hl => match us, hl with | [_, _, _, _, _, _], _ => rfl) h
theorem ev_law_low_gain (F : Fc P w K mg base cs) {f : Addr} {cdv : Value} {A : Around} {outer : List Env} {s : Shared} {H : Hp} {E : XK} (hT : Tb.T = tabT cs qs) (B : Bd (cxOf (L2.CX P w) P w K mg base ["_law_log", "_law_stock", "_law_some", "_law_one"] "_law_low_gain" (defScope s_law_low_gain) f cdv A outer s H E) (WR E) 1) : EvB (cxOf (L2.CX P w) P w K mg base ["_law_log", "_law_stock", "_law_some", "_law_one"] "_law_low_gain" (defScope s_law_low_gain) f cdv A outer s H E) (WR E) (defBody s_law_low_gain) c_law_low_gain := 
  (eb_cons (es_setLc 2 B.toBe (ei_val (ev_var 0)) (blkOk_by (own := [("_law_one", 3)]) (by kernel_rfl)) (fun s H C cl fp => (eo_name 3 B.toBe.blk.nd (by decide))) (fun s H C cl fp => (pts_oneA (et_w (et_and (ev_tru (ev_ix (ix_all B.toBe.blk.u64) (ev_var 3) ev_int)) (et_and1 (et_cmp ok_le (ev_ix (ix_all B.toBe.blk.u64) (ev_var 3) ev_int) (ev_var 1))))))) (fun s H C cl fp => (ev_bin ok_sub (ev_ix (ix_all B.toBe.blk.u64) (ev_var 3) ev_int) (ev_ix (ix_all B.toBe.blk.u64) (ev_var 3) ev_int))))
  (eb_one (es_ret (ev_if (et_cmp (ok_neY B.toBe F.gfn F.fnd F.isf F.cmf KnEqs.nil) (ev_var 2) (ev_lst ea_nil)) (ev_callB (cr_maxL B.toBe.calm) rfl F.n_max (by decide +kernel) (ea_cons (ev_var 2) ea_nil)) ev_non))))
theorem fg_law_low_gain (F : Fc P w K mg base cs) (hT : Tb.T = tabT cs qs) : ∃ fd, FunD K "_law_low_gain" "_law_low_gain" (defArgs s_law_low_gain) (defBody s_law_low_gain) (defScope s_law_low_gain) [] [] (He.ga K "_law_low_gain") fd ∧ FnG ⟨K, mg, P, w, base, Tb.T⟩ 2 (He.ga K "_law_low_gain") fd ["_law_log", "_law_stock"] (spF ⟨K, mg, P, w, base, Tb.T⟩ 2 f_law_low_gain) := by
  obtain ⟨fd, D⟩ := F.d_law_low_gain
  exact ⟨fd, D, fn_ok (N := ["_law_log", "_law_stock", "_law_some", "_law_one"]) D ⟨rfl, rfl, rfl, by decide +kernel, rfl, by decide +kernel, by decide +kernel⟩ rfl rfl fun cdv A outer s H E e B => ev_law_low_gain F hT B⟩
theorem kn_law_low_gain (F : Fc P w K mg base cs) (hT : Tb.T = tabT cs qs) : Kn ⟨K, mg, P, w, base, Tb.T⟩ 2 "_law_low_gain" 2 f_law_low_gain := by
  obtain ⟨fd, D, h⟩ := fg_law_low_gain F hT
  exact kn_of F.g_law_low_gain D (fun _ _ _ _ _ _ us hl => match us, hl with | [_, _], _ => rfl) h
theorem ev_law_high_gain (F : Fc P w K mg base cs) {f : Addr} {cdv : Value} {A : Around} {outer : List Env} {s : Shared} {H : Hp} {E : XK} (hT : Tb.T = tabT cs qs) (B : Bd (cxOf (L2.CX P w) P w K mg base ["_law_log", "_law_stock", "_law_some", "_law_one"] "_law_high_gain" (defScope s_law_high_gain) f cdv A outer s H E) (WR E) 1) : EvB (cxOf (L2.CX P w) P w K mg base ["_law_log", "_law_stock", "_law_some", "_law_one"] "_law_high_gain" (defScope s_law_high_gain) f cdv A outer s H E) (WR E) (defBody s_law_high_gain) c_law_high_gain := 
  (eb_cons (es_setLc 2 B.toBe (ei_val (ev_var 0)) (blkOk_by (own := [("_law_one", 3)]) (by kernel_rfl)) (fun s H C cl fp => (eo_name 3 B.toBe.blk.nd (by decide))) (fun s H C cl fp => (pts_oneA (et_w (et_and (et_not (ev_tru (ev_ix (ix_all B.toBe.blk.u64) (ev_var 3) ev_int))) (et_and1 (et_cmp ok_ge (ev_ix (ix_all B.toBe.blk.u64) (ev_var 3) ev_int) (ev_var 1))))))) (fun s H C cl fp => (ev_bin ok_sub (ev_bin ok_sub (ev_ix (ix_all B.toBe.blk.u64) (ev_var 3) ev_int) (ev_ix (ix_all B.toBe.blk.u64) (ev_var 3) ev_int)) ev_int)))
  (eb_one (es_ret (ev_if (et_cmp (ok_neY B.toBe F.gfn F.fnd F.isf F.cmf KnEqs.nil) (ev_var 2) (ev_lst ea_nil)) (ev_callB (cr_minL B.toBe.calm) rfl F.n_min (by decide +kernel) (ea_cons (ev_var 2) ea_nil)) ev_non))))
theorem fg_law_high_gain (F : Fc P w K mg base cs) (hT : Tb.T = tabT cs qs) : ∃ fd, FunD K "_law_high_gain" "_law_high_gain" (defArgs s_law_high_gain) (defBody s_law_high_gain) (defScope s_law_high_gain) [] [] (He.ga K "_law_high_gain") fd ∧ FnG ⟨K, mg, P, w, base, Tb.T⟩ 2 (He.ga K "_law_high_gain") fd ["_law_log", "_law_stock"] (spF ⟨K, mg, P, w, base, Tb.T⟩ 2 f_law_high_gain) := by
  obtain ⟨fd, D⟩ := F.d_law_high_gain
  exact ⟨fd, D, fn_ok (N := ["_law_log", "_law_stock", "_law_some", "_law_one"]) D ⟨rfl, rfl, rfl, by decide +kernel, rfl, by decide +kernel, by decide +kernel⟩ rfl rfl fun cdv A outer s H E e B => ev_law_high_gain F hT B⟩
theorem kn_law_high_gain (F : Fc P w K mg base cs) (hT : Tb.T = tabT cs qs) : Kn ⟨K, mg, P, w, base, Tb.T⟩ 2 "_law_high_gain" 2 f_law_high_gain := by
  obtain ⟨fd, D, h⟩ := fg_law_high_gain F hT
  exact kn_of F.g_law_high_gain D (fun _ _ _ _ _ _ us hl => match us, hl with | [_, _], _ => rfl) h
theorem ev_law_only_right (F : Fc P w K mg base cs) {f : Addr} {cdv : Value} {A : Around} {outer : List Env} {s : Shared} {H : Hp} {E : XK} (hT : Tb.T = tabT cs qs) (B : Bd (cxOf (L2.CX P w) P w K mg base ["_law_log", "_law_told", "_law_most", "_law_gain", "_law_ends", "_law_pair", "_law_at", "_law_need", "_law_more", "_law_low", "_law_high"] "_law_only_right" (defScope s_law_only_right) f cdv A outer s H E) (WR E) 2) : EvB (cxOf (L2.CX P w) P w K mg base ["_law_log", "_law_told", "_law_most", "_law_gain", "_law_ends", "_law_pair", "_law_at", "_law_need", "_law_more", "_law_low", "_law_high"] "_law_only_right" (defScope s_law_only_right) f cdv A outer s H E) (WR E) (defBody s_law_only_right) c_law_only_right := 
  (eb_cons (es_set 4 B.toBe.nd (ev_bin ok_add (ev_lc B.toBe (ei_val (ev_var 1)) (blkOk_by (own := [("_law_pair", 5)]) (by kernel_rfl)) (fun s H C cl fp => (eo_name 5 B.toBe.blk.nd (by decide))) (fun s H C cl fp => pts_nilA) (fun s H C cl fp => (ev_bin ok_sub (ev_ix (ix_all B.toBe.blk.u64) (ev_var 5) ev_int) ev_int))) (ev_lst (ea_cons (ev_var 2) ea_nil))))
  (eb_cons (es_if (et_w (et_and (et_cmp ok_ge (ev_ix (ix_all B.toBe.u64) (ev_var 4) ev_int) ev_int) (et_and1 (et_w (et_or (et_cmp ok_is (ev_call B.toBe ((kn_law_high_gain F hT).mono (by decide)) rfl (ea_cons (ev_var 0) (ea_cons (ev_ix (ix_all B.toBe.u64) (ev_var 4) ev_int) ea_nil))) ev_non) (et_or1 (et_cmp ok_ge (ev_bin ok_add (ev_ix (ix_all B.toBe.u64) (ev_var 4) ev_int) (ev_call B.toBe ((kn_law_high_gain F hT).mono (by decide)) rfl (ea_cons (ev_var 0) (ea_cons (ev_ix (ix_all B.toBe.u64) (ev_var 4) ev_int) ea_nil)))) ev_int)))))))
  (eb_one (es_ret ev_bl))
  eb_nil)
  (eb_cons (es_for B.own B.toBe.calm (ei_enum rfl F.n_enumerate (ea_cons (ev_var 1) ea_nil)) (eg_tup B.toBe.calm (egs_cons (eg_name 6 B.toBe.nd) (egs_cons (eg_tup B.toBe.calm (egs_cons (eg_name 7 B.toBe.nd) (egs_cons (eg_name 8 B.toBe.nd) egs_nil))) egs_nil)))
  (eb_cons (es_par 9 10 B.toBe.calm B.toBe.nd (ea_cons (ev_call B.toBe ((kn_law_low_gain F hT).mono (by decide)) rfl (ea_cons (ev_var 0) (ea_cons (ev_var 7) ea_nil))) (ea_cons (ev_call B.toBe ((kn_law_high_gain F hT).mono (by decide)) rfl (ea_cons (ev_var 0) (ea_cons (ev_ix (ix_all B.toBe.u64) (ev_var 4) (ev_bin ok_add (ev_var 6) ev_int)) ea_nil))) ea_nil)))
  (eb_cons (es_if (et_w (et_or (et_cmp ok_is (ev_var 9) ev_non) (et_or1 (et_w (et_and (et_cmp ok_is (ev_var 8) ev_non) (et_and1 (et_cmp ok_le (ev_var 9) (ev_var 3))))))))
  (eb_one (es_ret ev_bl))
  eb_nil)
  (eb_one (es_if (et_w (et_and (et_cmp ok_isn (ev_var 8) ev_non) (et_and1 (et_w (et_or (et_cmp (ok_neY B.toBe F.gfn F.fnd F.isf F.cmf KnEqs.nil) (ev_var 9) (ev_var 8)) (et_or (et_cmp ok_is (ev_var 10) ev_non) (et_or1 (et_cmp (ok_neY B.toBe F.gfn F.fnd F.isf F.cmf KnEqs.nil) (ev_callB (cr_min2 B.toBe.calm) rfl F.n_min (by decide +kernel) (ea_cons (ev_var 10) (ea_cons (ev_var 3) ea_nil))) (ev_var 8)))))))))
  (eb_one (es_ret ev_bl))
  eb_nil)))))
  (eb_one (es_ret ev_bl)))))
theorem fg_law_only_right (F : Fc P w K mg base cs) (hT : Tb.T = tabT cs qs) : ∃ fd, FunD K "_law_only_right" "_law_only_right" (defArgs s_law_only_right) (defBody s_law_only_right) (defScope s_law_only_right) [] [] (He.ga K "_law_only_right") fd ∧ FnG ⟨K, mg, P, w, base, Tb.T⟩ 3 (He.ga K "_law_only_right") fd ["_law_log", "_law_told", "_law_most", "_law_gain"] (spF ⟨K, mg, P, w, base, Tb.T⟩ 4 f_law_only_right) := by
  obtain ⟨fd, D⟩ := F.d_law_only_right
  exact ⟨fd, D, fn_ok (N := ["_law_log", "_law_told", "_law_most", "_law_gain", "_law_ends", "_law_pair", "_law_at", "_law_need", "_law_more", "_law_low", "_law_high"]) D ⟨rfl, rfl, rfl, by decide +kernel, rfl, by decide +kernel, by decide +kernel⟩ rfl rfl fun cdv A outer s H E e B => ev_law_only_right F hT B⟩
theorem kn_law_only_right (F : Fc P w K mg base cs) (hT : Tb.T = tabT cs qs) : Kn ⟨K, mg, P, w, base, Tb.T⟩ 3 "_law_only_right" 4 f_law_only_right := by
  obtain ⟨fd, D, h⟩ := fg_law_only_right F hT
  exact kn_of F.g_law_only_right D (fun _ _ _ _ _ _ us hl => match us, hl with | [_, _, _, _], _ => rfl) h
theorem ev_law_bits (F : Fc P w K mg base cs) {f : Addr} {cdv : Value} {A : Around} {outer : List Env} {s : Shared} {H : Hp} {E : XK} (hT : Tb.T = tabT cs qs) (B : Bd (cxOf (L2.CX P w) P w K mg base ["_law_number", "_law_found", "_law_power"] "_law_bits" (defScope s_law_bits) f cdv A outer s H E) (WR E) 1) : EvB (cxOf (L2.CX P w) P w K mg base ["_law_number", "_law_found", "_law_power"] "_law_bits" (defScope s_law_bits) f cdv A outer s H E) (WR E) (defBody s_law_bits) c_law_bits := 
  (eb_cons (es_asg (ev_tup (ea_cons ev_int (ea_cons ev_int ea_nil))) (eg_tup B.toBe.calm (egs_cons (eg_name 1 B.toBe.nd) (egs_cons (eg_name 2 B.toBe.nd) egs_nil))))
  (eb_cons (es_while B.own (et_cmp ok_lt (ev_var 2) (ev_var 0))
  (eb_one (es_par 1 2 B.toBe.calm B.toBe.nd (ea_cons (ev_bin ok_add (ev_var 1) ev_int) (ea_cons (ev_bin ok_mul (ev_var 2) ev_int) ea_nil)))))
  (eb_one (es_ret (ev_var 1)))))
theorem fg_law_bits (F : Fc P w K mg base cs) (hT : Tb.T = tabT cs qs) : ∃ fd, FunD K "_law_bits" "_law_bits" (defArgs s_law_bits) (defBody s_law_bits) (defScope s_law_bits) [] [] (He.ga K "_law_bits") fd ∧ FnG ⟨K, mg, P, w, base, Tb.T⟩ 2 (He.ga K "_law_bits") fd ["_law_number"] (spF ⟨K, mg, P, w, base, Tb.T⟩ 1 f_law_bits) := by
  obtain ⟨fd, D⟩ := F.d_law_bits
  exact ⟨fd, D, fn_ok (N := ["_law_number", "_law_found", "_law_power"]) D ⟨rfl, rfl, rfl, by decide +kernel, rfl, by decide +kernel, by decide +kernel⟩ rfl rfl fun cdv A outer s H E e B => ev_law_bits F hT B⟩
theorem kn_law_bits (F : Fc P w K mg base cs) (hT : Tb.T = tabT cs qs) : Kn ⟨K, mg, P, w, base, Tb.T⟩ 2 "_law_bits" 1 f_law_bits := by
  obtain ⟨fd, D, h⟩ := fg_law_bits F hT
  exact kn_of F.g_law_bits D (fun _ _ _ _ _ _ us hl => match us, hl with | [_], _ => rfl) h
theorem ev_law_follows (F : Fc P w K mg base cs) {f : Addr} {cdv : Value} {A : Around} {outer : List Env} {s : Shared} {H : Hp} {E : XK} (hT : Tb.T = tabT cs qs) (B : Bd (cxOf (L2.CX P w) P w K mg base ["_law_log", "_law_at", "_law_stock", "_law_wanted", "_law_ahead", "_law_low", "_law_high"] "_law_follows" (defScope s_law_follows) f cdv A outer s H E) (WR E) 2) : EvB (cxOf (L2.CX P w) P w K mg base ["_law_log", "_law_at", "_law_stock", "_law_wanted", "_law_ahead", "_law_low", "_law_high"] "_law_follows" (defScope s_law_follows) f cdv A outer s H E) (WR E) (defBody s_law_follows) c_law_follows := 
  (eb_cons (es_par3 2 3 4 B.toBe.calm B.toBe.nd (ea_cons (ev_ix (ix_all B.toBe.u64) (ev_ix (ix_all B.toBe.u64) (ev_var 0) (ev_var 1)) ev_int) (ea_cons (ev_ix (ix_all B.toBe.u64) (ev_ix (ix_all B.toBe.u64) (ev_var 0) (ev_var 1)) ev_int) (ea_cons (ev_slice (ev_var 0) eo_none (eo_some (ev_var 1))) ea_nil))))
  (eb_cons (es_par 5 6 B.toBe.calm B.toBe.nd (ea_cons (ev_call B.toBe ((kn_law_low_gain F hT).mono (by decide)) rfl (ea_cons (ev_var 4) (ea_cons (ev_var 2) ea_nil))) (ea_cons (ev_call B.toBe ((kn_law_high_gain F hT).mono (by decide)) rfl (ea_cons (ev_var 4) (ea_cons (ev_var 2) ea_nil))) ea_nil)))
  (eb_one (es_ret (ev_or (ev_and (ev_cmp ok_isn (ev_var 5) ev_non) (ev_and1 (ev_cmp ok_ge (ev_var 5) (ev_bin ok_sub (ev_var 3) (ev_var 2))))) (ev_and1 (ev_and (ev_cmp ok_isn (ev_var 6) ev_non) (ev_and1 (ev_cmp ok_lt (ev_var 6) (ev_bin ok_sub (ev_var 3) (ev_var 2)))))))))))
theorem fg_law_follows (F : Fc P w K mg base cs) (hT : Tb.T = tabT cs qs) : ∃ fd, FunD K "_law_follows" "_law_follows" (defArgs s_law_follows) (defBody s_law_follows) (defScope s_law_follows) [] [] (He.ga K "_law_follows") fd ∧ FnG ⟨K, mg, P, w, base, Tb.T⟩ 3 (He.ga K "_law_follows") fd ["_law_log", "_law_at"] (spF ⟨K, mg, P, w, base, Tb.T⟩ 2 f_law_follows) := by
  obtain ⟨fd, D⟩ := F.d_law_follows
  exact ⟨fd, D, fn_ok (N := ["_law_log", "_law_at", "_law_stock", "_law_wanted", "_law_ahead", "_law_low", "_law_high"]) D ⟨rfl, rfl, rfl, by decide +kernel, rfl, by decide +kernel, by decide +kernel⟩ rfl rfl fun cdv A outer s H E e B => ev_law_follows F hT B⟩
theorem kn_law_follows (F : Fc P w K mg base cs) (hT : Tb.T = tabT cs qs) : Kn ⟨K, mg, P, w, base, Tb.T⟩ 3 "_law_follows" 2 f_law_follows := by
  obtain ⟨fd, D, h⟩ := fg_law_follows F hT
  exact kn_of F.g_law_follows D (fun _ _ _ _ _ _ us hl => match us, hl with | [_, _], _ => rfl) h
theorem ev_law (F : Fc P w K mg base cs) {f : Addr} {cdv : Value} {A : Around} {outer : List Env} {s : Shared} {H : Hp} {E : XK} {fd : FuncData} (hl : ∃ c P, cs[3]? = some (c, P) ∧ cdv = .ref c ∧ LamX.TabB base mg c P) (hT : Tb.T = tabT cs qs) (B : Bd (cxOf (L2.CX P w) P w K mg base ["_law_script", "_law_stream_here", "_law_turn", "_law_log", "_law_way", "_law_border", "_law_great", "_law_most", "_law_gain", "_law_told", "_law_pair", "_law_stock", "_law_wanted", "_law_answer", "_law_out_here", "_law_k"] "law" (defScope s_law) f cdv A outer s H E) (WR E) 31) : EvB (cxOf (L2.CX P w) P w K mg base ["_law_script", "_law_stream_here", "_law_turn", "_law_log", "_law_way", "_law_border", "_law_great", "_law_most", "_law_gain", "_law_told", "_law_pair", "_law_stock", "_law_wanted", "_law_answer", "_law_out_here", "_law_k"] "law" (defScope s_law) f cdv A outer s H E) (WR E) (defBody s_law) c_law := by
  obtain ⟨c0, P0, hc0, e0, tb0⟩ := hl
  have LM : LmOk (cxOf (L2.CX P w) P w K mg base ["_law_script", "_law_stream_here", "_law_turn", "_law_log", "_law_way", "_law_border", "_law_great", "_law_most", "_law_gain", "_law_told", "_law_pair", "_law_stock", "_law_wanted", "_law_answer", "_law_out_here", "_law_k"] "law" (defScope s_law) f cdv A outer s H E) := lm_ok (i := 3) hT F.nd hc0 rfl e0 tb0
  exact (eb_cons (es_set 1 B.toBe.nd (ev_callX B ((kn_law_stream F hT).mono (by decide)) rfl (ex_var 0 ex_nil)))
  (eb_cons (es_for B.own B.toBe.calm (ei_range1 rfl F.n_range (ea_cons ev_int ea_nil)) (eg_name 2 B.toBe.nd)
  (eb_cons (es_asg (ev_tup (ea_cons (ev_lst ea_nil) (ea_cons (ev_call B.toBe ((kn_law_draw F hT).mono (by decide)) rfl (ea_cons (ev_var 1) (ea_cons ev_int ea_nil))) (ea_cons (ev_bin ok_sub (ev_call B.toBe ((kn_law_draw F hT).mono (by decide)) rfl (ea_cons (ev_var 1) (ea_cons ev_int ea_nil))) ev_int) ea_nil)))) (eg_tup B.toBe.calm (egs_cons (eg_name 3 B.toBe.nd) (egs_cons (eg_name 4 B.toBe.nd) (egs_cons (eg_name 5 B.toBe.nd) egs_nil)))))
  (eb_cons (es_set 6 B.toBe.nd (ev_if (et_cmp (ok_eq B.toBe.u64) (ev_var 4) ev_int) (ev_lst (ea_cons ev_int (ea_cons ev_int (ea_cons ev_int (ea_cons ev_int ea_nil))))) (ev_lst (ea_cons ev_int (ea_cons ev_int (ea_cons ev_int (ea_cons ev_int ea_nil)))))))
  (eb_cons (es_asg (ev_tup (ea_cons (ev_call B.toBe ((kn_law_draw F hT).mono (by decide)) rfl (ea_cons (ev_var 1) (ea_cons (ev_call B.toBe ((kn_law_pick F hT).mono (by decide)) rfl (ea_cons (ev_var 1) (ea_cons (ev_var 6) ea_nil))) ea_nil))) (ea_cons (ev_call B.toBe ((kn_law_draw F hT).mono (by decide)) rfl (ea_cons (ev_var 1) (ea_cons (ev_call B.toBe ((kn_law_pick F hT).mono (by decide)) rfl (ea_cons (ev_var 1) (ea_cons (ev_var 6) ea_nil))) ea_nil))) ea_nil))) (eg_tup B.toBe.calm (egs_cons (eg_name 7 B.toBe.nd) (egs_cons (eg_name 8 B.toBe.nd) egs_nil))))
  (eb_cons (es_set 9 B.toBe.nd (ev_callX B ((kn_learned_stairs F hT).mono (by decide)) rfl (ex_lam (ps := ["_law_stock", "_law_wanted"]) (fr := ["_law_log", "_law_stream_here", "_law_way", "_law_border"]) (js := [3, 1, 4, 5]) LM ⟨lamP_by (by kernel_rfl), (js_by (N := ["_law_script", "_law_stream_here", "_law_turn", "_law_log", "_law_way", "_law_border", "_law_great", "_law_most", "_law_gain", "_law_told", "_law_pair", "_law_stock", "_law_wanted", "_law_answer", "_law_out_here", "_law_k"]) (fr := ["_law_log", "_law_stream_here", "_law_way", "_law_border"]) (js := [3, 1, 4, 5]) rfl).1, (js_by (N := ["_law_script", "_law_stream_here", "_law_turn", "_law_log", "_law_way", "_law_border", "_law_great", "_law_most", "_law_gain", "_law_told", "_law_pair", "_law_stock", "_law_wanted", "_law_answer", "_law_out_here", "_law_k"]) (fr := ["_law_log", "_law_stream_here", "_law_way", "_law_border"]) (js := [3, 1, 4, 5]) rfl).2, fun _ _ _ _ _ us hl => match us, hl with | [_, _], _ => rfl, fun A outer s1 H1 E f c' B => (ev_call B.toBe ((kn_law_box F hT).mono (by decide)) rfl (ea_cons (ev_var 2) (ea_cons (ev_var 3) (ea_cons (ev_var 4) (ea_cons (ev_var 5) (ea_cons (ev_var 0) (ea_cons (ev_var 1) ea_nil)))))))⟩ (ex_cons (ev_var 7) (ex_cons (ev_var 8) ex_nil)))))
  (eb_cons (es_if (et_w (et_or (et_not (ev_tru (ev_call B.toBe ((kn_law_same F hT 30).mono (by decide)) rfl (ea_cons (ev_var 9) (ea_cons (ev_lc B.toBe (ei_val (ev_var 9)) (blkOk_by (own := [("_law_pair", 10)]) (by kernel_rfl)) (fun s H C cl fp => (eo_name 10 B.toBe.blk.nd (by decide))) (fun s H C cl fp => pts_nilA) (fun s H C cl fp => (ev_callTy cr_tuple rfl F.n_tuple (by decide +kernel) (ea_cons (ev_var 10) ea_nil)))) ea_nil))))) (et_or1 (et_not (ev_tru (ev_call B.toBe ((kn_law_are_stairs F hT).mono (by decide)) rfl (ea_cons (ev_var 9) ea_nil)))))))
  (eb_one (es_ret ev_bl))
  eb_nil)
  (eb_cons (es_if (et_not (ev_tru (ev_callB (cr_allA B.toBe.calm) rfl F.n_all (by decide +kernel) (ea_cons (ev_lc B.toBe (ei_val (ev_var 9)) (blkOk_by (own := [("_law_pair", 10)]) (by kernel_rfl)) (fun s H C cl fp => (eo_name 10 B.toBe.blk.nd (by decide))) (fun s H C cl fp => pts_nilA) (fun s H C cl fp => (ev_and (ev_cmp ok_le (ev_ix (ix_all B.toBe.blk.u64) (ev_var 10) ev_int) (ev_var 7)) (ev_and1 (ev_or (ev_cmp ok_is (ev_ix (ix_all B.toBe.blk.u64) (ev_var 10) ev_int) ev_non) (ev_and1 (ev_cmp ok_le (ev_ix (ix_all B.toBe.blk.u64) (ev_var 10) ev_int) (ev_var 8)))))))) ea_nil))))
  (eb_one (es_ret ev_bl))
  eb_nil)
  (eb_cons (es_if (et_cmp ok_gt (ev_callB cr_len rfl F.n_len (by decide +kernel) (ea_cons (ev_var 3) ea_nil)) (ev_bin ok_add (ev_bin ok_mul (ev_bin ok_add (ev_callB cr_len rfl F.n_len (by decide +kernel) (ea_cons (ev_var 9) ea_nil)) ev_int) (ev_call B.toBe ((kn_law_bits F hT).mono (by decide)) rfl (ea_cons (ev_bin ok_add (ev_var 7) ev_int) ea_nil))) (ev_bin ok_mul (ev_callB cr_len rfl F.n_len (by decide +kernel) (ea_cons (ev_var 9) ea_nil)) (ev_call B.toBe ((kn_law_bits F hT).mono (by decide)) rfl (ea_cons (ev_bin ok_add (ev_bin ok_add (ev_var 7) (ev_var 8)) ev_int) ea_nil)))))
  (eb_one (es_ret ev_bl))
  eb_nil)
  (eb_cons (es_for B.own B.toBe.calm (ei_val (ev_var 3)) (eg_tup B.toBe.calm (egs_cons (eg_name 11 B.toBe.nd) (egs_cons (eg_name 12 B.toBe.nd) (egs_cons (eg_name 13 B.toBe.nd) egs_nil))))
  (eb_cons (es_set 14 B.toBe.nd (ev_call B.toBe ((kn_law_out F hT).mono (by decide)) rfl (ea_cons (ev_var 9) (ea_cons (ev_var 11) ea_nil))))
  (eb_one (es_if (et_cmp (ok_ne B.toBe.u64) (ev_or (ev_cmp ok_is (ev_var 14) ev_non) (ev_and1 (ev_cmp ok_ge (ev_var 14) (ev_var 12)))) (ev_var 13))
  (eb_one (es_ret ev_bl))
  eb_nil))))
  (eb_cons (es_if (et_not (ev_tru (ev_call B.toBe ((kn_law_only_right F hT).mono (by decide)) rfl (ea_cons (ev_var 3) (ea_cons (ev_var 9) (ea_cons (ev_var 7) (ea_cons (ev_var 8) ea_nil)))))))
  (eb_one (es_ret ev_bl))
  eb_nil)
  (eb_one (es_for B.own B.toBe.calm (ei_range1 rfl F.n_range (ea_cons ev_int ea_nil)) (eg_name 15 B.toBe.nd)
  (eb_one (es_if (ev_tru (ev_call B.toBe ((kn_law_follows F hT).mono (by decide)) rfl (ea_cons (ev_var 3) (ea_cons (ev_call B.toBe ((kn_law_draw F hT).mono (by decide)) rfl (ea_cons (ev_var 1) (ea_cons (ev_callB cr_len rfl F.n_len (by decide +kernel) (ea_cons (ev_var 3) ea_nil)) ea_nil))) ea_nil))))
  (eb_one (es_ret ev_bl))
  eb_nil))))))))))))))
  (eb_one (es_ret ev_bl))))
theorem fg_law (F : Fc P w K mg base cs) (hT : Tb.T = tabT cs qs) : ∃ fd, FunD K "law" "law" (defArgs s_law) (defBody s_law) (defScope s_law) [] [] (He.ga K "law") fd ∧ FnG ⟨K, mg, P, w, base, Tb.T⟩ 32 (He.ga K "law") fd ["_law_script"] (spF ⟨K, mg, P, w, base, Tb.T⟩ 1 f_law) := by
  obtain ⟨fd, D⟩ := F.d_law
  exact ⟨fd, D, fn_ok (N := ["_law_script", "_law_stream_here", "_law_turn", "_law_log", "_law_way", "_law_border", "_law_great", "_law_most", "_law_gain", "_law_told", "_law_pair", "_law_stock", "_law_wanted", "_law_answer", "_law_out_here", "_law_k"]) D ⟨rfl, rfl, rfl, by decide +kernel, rfl, by decide +kernel, by decide +kernel⟩ rfl rfl fun cdv A outer s H E e B => ev_law (fd := fd) F (by obtain ⟨c, P0, h1, h2, h3⟩ := F.l_law _ D; exact ⟨c, P0, h1, e.trans h2, h3⟩) hT B⟩
theorem kn_law (F : Fc P w K mg base cs) (hT : Tb.T = tabT cs qs) : Kn ⟨K, mg, P, w, base, Tb.T⟩ 32 "law" 1 f_law := by
  obtain ⟨fd, D, h⟩ := fg_law F hT
  exact kn_of F.g_law D (fun _ _ _ _ _ _ us hl => match us, hl with | [_], _ => rfl) h
end
end K69
end

section
set_option Elab.async false
set_option linter.all false
set_option autoImplicit false
set_option maxRecDepth 100000
set_option maxHeartbeats 4000000
/-! law_k69_whole_stairs_whatever_is_answered: its head (printed by gen.py). -/
namespace K69
open PySem PySem.Spec L2 AM
def h_d_is_whole : He.DefD := ⟨("is_whole", none), "is_whole", "is_whole", defArgs s_is_whole, defBody s_is_whole, defScope s_is_whole, [], []⟩
def h_d_is_number : He.DefD := ⟨("is_number", none), "is_number", "is_number", defArgs s_is_number, defBody s_is_number, defScope s_is_number, [], []⟩
def h_d_said : He.DefD := ⟨("said", none), "said", "said", defArgs s_said, defBody s_said, defScope s_said, [], []⟩
def h_d_first_so : He.DefD := ⟨("first_so", none), "first_so", "first_so", defArgs s_first_so, defBody s_first_so, defScope s_first_so, [], []⟩
def h_d_need_behind : He.DefD := ⟨("need_behind", none), "need_behind", "need_behind", defArgs s_need_behind, defBody s_need_behind, defScope s_need_behind, [], []⟩
def h_d_out_with : He.DefD := ⟨("out_with", none), "out_with", "out_with", defArgs s_out_with, defBody s_out_with, defScope s_out_with, [], []⟩
def h_d_learned_stairs : He.DefD := ⟨("learned_stairs", none), "learned_stairs", "learned_stairs", defArgs s_learned_stairs, defBody s_learned_stairs, defScope s_learned_stairs, [], []⟩
def h_d_law_stream : He.DefD := ⟨("_law_stream", none), "_law_stream", "_law_stream", defArgs s_law_stream, defBody s_law_stream, defScope s_law_stream, [], []⟩
def h_d_law_draw : He.DefD := ⟨("_law_draw", none), "_law_draw", "_law_draw", defArgs s_law_draw, defBody s_law_draw, defScope s_law_draw, [], []⟩
def h_d_law_pick : He.DefD := ⟨("_law_pick", none), "_law_pick", "_law_pick", defArgs s_law_pick, defBody s_law_pick, defScope s_law_pick, [], []⟩
def h_d_law_same : He.DefD := ⟨("_law_same", none), "_law_same", "_law_same", defArgs s_law_same, defBody s_law_same, defScope s_law_same, [], []⟩
def h_d_law_up : He.DefD := ⟨("_law_up", none), "_law_up", "_law_up", defArgs s_law_up, defBody s_law_up, defScope s_law_up, [], []⟩
def h_d_law_is_list : He.DefD := ⟨("_law_is_list", none), "_law_is_list", "_law_is_list", defArgs s_law_is_list, defBody s_law_is_list, defScope s_law_is_list, [], []⟩
def h_d_law_is_whole : He.DefD := ⟨("_law_is_whole", none), "_law_is_whole", "_law_is_whole", defArgs s_law_is_whole, defBody s_law_is_whole, defScope s_law_is_whole, [], []⟩
def h_d_law_is_stair : He.DefD := ⟨("_law_is_stair", none), "_law_is_stair", "_law_is_stair", defArgs s_law_is_stair, defBody s_law_is_stair, defScope s_law_is_stair, [], []⟩
def h_d_law_are_stairs : He.DefD := ⟨("_law_are_stairs", none), "_law_are_stairs", "_law_are_stairs", defArgs s_law_are_stairs, defBody s_law_are_stairs, defScope s_law_are_stairs, [], []⟩
def h_d_law_out : He.DefD := ⟨("_law_out", none), "_law_out", "_law_out", defArgs s_law_out, defBody s_law_out, defScope s_law_out, [], []⟩
def h_d_law_any_answer : He.DefD := ⟨("_law_any_answer", none), "_law_any_answer", "_law_any_answer", defArgs s_law_any_answer, defBody s_law_any_answer, defScope s_law_any_answer, [], []⟩
def h_d_law_box : He.DefD := ⟨("_law_box", none), "_law_box", "_law_box", defArgs s_law_box, defBody s_law_box, defScope s_law_box, [], []⟩
def h_d_law_low_gain : He.DefD := ⟨("_law_low_gain", none), "_law_low_gain", "_law_low_gain", defArgs s_law_low_gain, defBody s_law_low_gain, defScope s_law_low_gain, [], []⟩
def h_d_law_high_gain : He.DefD := ⟨("_law_high_gain", none), "_law_high_gain", "_law_high_gain", defArgs s_law_high_gain, defBody s_law_high_gain, defScope s_law_high_gain, [], []⟩
def h_d_law_only_right : He.DefD := ⟨("_law_only_right", none), "_law_only_right", "_law_only_right", defArgs s_law_only_right, defBody s_law_only_right, defScope s_law_only_right, [], []⟩
def h_d_law_bits : He.DefD := ⟨("_law_bits", none), "_law_bits", "_law_bits", defArgs s_law_bits, defBody s_law_bits, defScope s_law_bits, [], []⟩
def h_d_law_follows : He.DefD := ⟨("_law_follows", none), "_law_follows", "_law_follows", defArgs s_law_follows, defBody s_law_follows, defScope s_law_follows, [], []⟩
def h_d_law : He.DefD := ⟨("law", none), "law", "law", defArgs s_law, defBody s_law, defScope s_law, [], []⟩
def h_x_BadAnswer : He.DefD := ⟨("BadAnswer", some "__init__"), "__init__", "BadAnswer.__init__", defArgs s_BadAnswer, defBody s_BadAnswer, defScope s_BadAnswer, [], []⟩
def h_x_BadGain : He.DefD := ⟨("BadGain", some "__init__"), "__init__", "BadGain.__init__", defArgs s_BadGain, defBody s_BadGain, defScope s_BadGain, [], []⟩
def h_x_BadMost : He.DefD := ⟨("BadMost", some "__init__"), "__init__", "BadMost.__init__", defArgs s_BadMost, defBody s_BadMost, defScope s_BadMost, [], []⟩
def hfn0 : List He.DefD := [h_d_is_whole, h_d_is_number, h_d_said, h_d_first_so, h_d_need_behind, h_d_out_with, h_d_learned_stairs, h_d_law_stream, h_d_law_draw, h_d_law_pick, h_d_law_same, h_d_law_up, h_d_law_is_list, h_d_law_is_whole, h_d_law_is_stair, h_d_law_are_stairs, h_d_law_out, h_d_law_any_answer, h_d_law_box, h_d_law_low_gain, h_d_law_high_gain, h_d_law_only_right, h_d_law_bits, h_d_law_follows, h_d_law, h_x_BadAnswer, h_x_BadGain, h_x_BadMost]
def hfn : List He.DefD := hfn0
def hfa0 : List He.Fa := [.free "abs", .free "all", .free "bool", .free "dict", .free "enumerate", .free "int", .free "isinstance", .free "len", .free "list", .free "max", .free "min", .free "range", .free "sorted", .free "tuple", .free "zip", .glo "AroundError", .glo "BadAnswer", .glo "BadGain", .glo "BadMost", .glo "_law_any_answer", .glo "_law_are_stairs", .glo "_law_bits", .glo "_law_box", .glo "_law_draw", .glo "_law_follows", .glo "_law_high_gain", .glo "_law_is_list", .glo "_law_is_stair", .glo "_law_is_whole", .glo "_law_low_gain"]
def hfa1 : List He.Fa := [.glo "_law_only_right", .glo "_law_out", .glo "_law_pick", .glo "_law_same", .glo "_law_stream", .glo "_law_up", .glo "first_so", .glo "is_number", .glo "is_whole", .glo "law", .glo "learned_stairs", .glo "need_behind", .glo "out_with", .glo "said"]
def hfa : List He.Fa := hfa0 ++ hfa1
def hbs0 : List (PySem.W.Frag → Bool) := [xoB "BadAnswer" "thing", xoB "BadGain" "gain", xoB "BadMost" "most"]
def hbs : List (PySem.W.Frag → Bool) := hbs0
def hob : Ob := ⟨5, hfa, hfn, hbs, [("need_behind", none), ("out_with", none), ("learned_stairs", none), ("law", none)]⟩
theorem fc [Tb] {P : Program} {w : World} {K : PySem.W.Frag} {mg : Str → Option Value} {base h : Heap} {cs : List (Addr × Addr)} (S : SaysX hob K cs h) (X : K.In base) (G : base.Ns mainGlobals mg) (tb : ∀ p ∈ cs, LamX.TabB base mg p.1 p.2) : Fc P w K mg base cs where
  n_abs := He.free_ok X G (S.fd.fact 0 (f := .free "abs") rfl)
  n_all := He.free_ok X G (S.fd.fact 1 (f := .free "all") rfl)
  n_bool := He.free_ok X G (S.fd.fact 2 (f := .free "bool") rfl)
  n_dict := He.free_ok X G (S.fd.fact 3 (f := .free "dict") rfl)
  n_enumerate := He.free_ok X G (S.fd.fact 4 (f := .free "enumerate") rfl)
  n_int := He.free_ok X G (S.fd.fact 5 (f := .free "int") rfl)
  n_isinstance := He.free_ok X G (S.fd.fact 6 (f := .free "isinstance") rfl)
  n_len := He.free_ok X G (S.fd.fact 7 (f := .free "len") rfl)
  n_list := He.free_ok X G (S.fd.fact 8 (f := .free "list") rfl)
  n_max := He.free_ok X G (S.fd.fact 9 (f := .free "max") rfl)
  n_min := He.free_ok X G (S.fd.fact 10 (f := .free "min") rfl)
  n_range := He.free_ok X G (S.fd.fact 11 (f := .free "range") rfl)
  n_sorted := He.free_ok X G (S.fd.fact 12 (f := .free "sorted") rfl)
  n_tuple := He.free_ok X G (S.fd.fact 13 (f := .free "tuple") rfl)
  n_zip := He.free_ok X G (S.fd.fact 14 (f := .free "zip") rfl)
  g_AroundError := (He.glo_ok X G (S.fd.fact 15 (f := .glo "AroundError") rfl))
  g_BadAnswer := (He.glo_ok X G (S.fd.fact 16 (f := .glo "BadAnswer") rfl))
  g_BadGain := (He.glo_ok X G (S.fd.fact 17 (f := .glo "BadGain") rfl))
  g_BadMost := (He.glo_ok X G (S.fd.fact 18 (f := .glo "BadMost") rfl))
  g_law_any_answer := (He.glo_ok X G (S.fd.fact 19 (f := .glo "_law_any_answer") rfl))
  g_law_are_stairs := (He.glo_ok X G (S.fd.fact 20 (f := .glo "_law_are_stairs") rfl))
  g_law_bits := (He.glo_ok X G (S.fd.fact 21 (f := .glo "_law_bits") rfl))
  g_law_box := (He.glo_ok X G (S.fd.fact 22 (f := .glo "_law_box") rfl))
  g_law_draw := (He.glo_ok X G (S.fd.fact 23 (f := .glo "_law_draw") rfl))
  g_law_follows := (He.glo_ok X G (S.fd.fact 24 (f := .glo "_law_follows") rfl))
  g_law_high_gain := (He.glo_ok X G (S.fd.fact 25 (f := .glo "_law_high_gain") rfl))
  g_law_is_list := (He.glo_ok X G (S.fd.fact 26 (f := .glo "_law_is_list") rfl))
  g_law_is_stair := (He.glo_ok X G (S.fd.fact 27 (f := .glo "_law_is_stair") rfl))
  g_law_is_whole := (He.glo_ok X G (S.fd.fact 28 (f := .glo "_law_is_whole") rfl))
  g_law_low_gain := (He.glo_ok X G (S.fd.fact 29 (f := .glo "_law_low_gain") rfl))
  g_law_only_right := (He.glo_ok X G (S.fd.fact 30 (f := .glo "_law_only_right") rfl))
  g_law_out := (He.glo_ok X G (S.fd.fact 31 (f := .glo "_law_out") rfl))
  g_law_pick := (He.glo_ok X G (S.fd.fact 32 (f := .glo "_law_pick") rfl))
  g_law_same := (He.glo_ok X G (S.fd.fact 33 (f := .glo "_law_same") rfl))
  g_law_stream := (He.glo_ok X G (S.fd.fact 34 (f := .glo "_law_stream") rfl))
  g_law_up := (He.glo_ok X G (S.fd.fact 35 (f := .glo "_law_up") rfl))
  g_first_so := (He.glo_ok X G (S.fd.fact 36 (f := .glo "first_so") rfl))
  g_is_number := (He.glo_ok X G (S.fd.fact 37 (f := .glo "is_number") rfl))
  g_is_whole := (He.glo_ok X G (S.fd.fact 38 (f := .glo "is_whole") rfl))
  g_law := (He.glo_ok X G (S.fd.fact 39 (f := .glo "law") rfl))
  g_learned_stairs := (He.glo_ok X G (S.fd.fact 40 (f := .glo "learned_stairs") rfl))
  g_need_behind := (He.glo_ok X G (S.fd.fact 41 (f := .glo "need_behind") rfl))
  g_out_with := (He.glo_ok X G (S.fd.fact 42 (f := .glo "out_with") rfl))
  g_said := (He.glo_ok X G (S.fd.fact 43 (f := .glo "said") rfl))
  d_is_whole := S.fd.def_ 0 (d := h_d_is_whole) rfl
  d_is_number := S.fd.def_ 1 (d := h_d_is_number) rfl
  d_said := S.fd.def_ 2 (d := h_d_said) rfl
  d_first_so := S.fd.def_ 3 (d := h_d_first_so) rfl
  d_need_behind := S.fd.def_ 4 (d := h_d_need_behind) rfl
  d_out_with := S.fd.def_ 5 (d := h_d_out_with) rfl
  d_learned_stairs := S.fd.def_ 6 (d := h_d_learned_stairs) rfl
  d_law_stream := S.fd.def_ 7 (d := h_d_law_stream) rfl
  d_law_draw := S.fd.def_ 8 (d := h_d_law_draw) rfl
  d_law_pick := S.fd.def_ 9 (d := h_d_law_pick) rfl
  d_law_same := S.fd.def_ 10 (d := h_d_law_same) rfl
  d_law_up := S.fd.def_ 11 (d := h_d_law_up) rfl
  d_law_is_list := S.fd.def_ 12 (d := h_d_law_is_list) rfl
  d_law_is_whole := S.fd.def_ 13 (d := h_d_law_is_whole) rfl
  d_law_is_stair := S.fd.def_ 14 (d := h_d_law_is_stair) rfl
  d_law_are_stairs := S.fd.def_ 15 (d := h_d_law_are_stairs) rfl
  d_law_out := S.fd.def_ 16 (d := h_d_law_out) rfl
  d_law_any_answer := S.fd.def_ 17 (d := h_d_law_any_answer) rfl
  d_law_box := S.fd.def_ 18 (d := h_d_law_box) rfl
  d_law_low_gain := S.fd.def_ 19 (d := h_d_law_low_gain) rfl
  d_law_high_gain := S.fd.def_ 20 (d := h_d_law_high_gain) rfl
  d_law_only_right := S.fd.def_ 21 (d := h_d_law_only_right) rfl
  d_law_bits := S.fd.def_ 22 (d := h_d_law_bits) rfl
  d_law_follows := S.fd.def_ 23 (d := h_d_law_follows) rfl
  d_law := S.fd.def_ 24 (d := h_d_law) rfl
  x_BadAnswer := S.fd.def_ 25 (d := h_x_BadAnswer) rfl
  x_BadGain := S.fd.def_ 26 (d := h_x_BadGain) rfl
  x_BadMost := S.fd.def_ 27 (d := h_x_BadMost) rfl
  xo_BadAnswer := xoB_ok (S.bs (xoB "BadAnswer" "thing") (List.mem_of_getElem? (i := 0) rfl))
  xo_BadGain := xoB_ok (S.bs (xoB "BadGain" "gain") (List.mem_of_getElem? (i := 1) rfl))
  xo_BadMost := xoB_ok (S.bs (xoB "BadMost" "most") (List.mem_of_getElem? (i := 2) rfl))
  gfn := gfB_ok (fun _ h => absurd h List.not_mem_nil)
  isf := isB_ok (fun _ h => absurd h List.not_mem_nil)
  cmf := cmB_ok (fun _ h => absurd h List.not_mem_nil)
  fnd := fdB_ok (fun _ h => absurd h List.not_mem_nil)
  em := em_ok (fun c x b hx => absurd hx List.not_mem_nil)
  l_need_behind := fun fd D => by
    obtain ⟨c, hc⟩ : ∃ c, cs[0]? = some c := ⟨_, List.getElem?_eq_getElem (by rw [S.len]; decide)⟩
    obtain ⟨_, _, _, _, _, _, _, _, _, _, _, hk, _⟩ := D.ex
    exact ⟨c.1, c.2, hc, codeIs_ok (S.is 0 _ c rfl hc) hk, tb c (List.mem_of_getElem? hc)⟩
  l_out_with := fun fd D => by
    obtain ⟨c, hc⟩ : ∃ c, cs[1]? = some c := ⟨_, List.getElem?_eq_getElem (by rw [S.len]; decide)⟩
    obtain ⟨_, _, _, _, _, _, _, _, _, _, _, hk, _⟩ := D.ex
    exact ⟨c.1, c.2, hc, codeIs_ok (S.is 1 _ c rfl hc) hk, tb c (List.mem_of_getElem? hc)⟩
  l_learned_stairs := fun fd D => by
    obtain ⟨c, hc⟩ : ∃ c, cs[2]? = some c := ⟨_, List.getElem?_eq_getElem (by rw [S.len]; decide)⟩
    obtain ⟨_, _, _, _, _, _, _, _, _, _, _, hk, _⟩ := D.ex
    exact ⟨c.1, c.2, hc, codeIs_ok (S.is 2 _ c rfl hc) hk, tb c (List.mem_of_getElem? hc)⟩
  l_law := fun fd D => by
    obtain ⟨c, hc⟩ : ∃ c, cs[3]? = some c := ⟨_, List.getElem?_eq_getElem (by rw [S.len]; decide)⟩
    obtain ⟨_, _, _, _, _, _, _, _, _, _, _, hk, _⟩ := D.ex
    exact ⟨c.1, c.2, hc, codeIs_ok (S.is 3 _ c rfl hc) hk, tb c (List.mem_of_getElem? hc)⟩
  nd := S.nd
theorem law_g {l : PySem.W.OpenLaw} {w : World} {mg : Str → Option Value} {fa : Addr} {h : Heap} (Y : ∃ K cs, SaysX hob K cs h) (G : h.Ns mainGlobals mg) (hmg : mg "law" = some (.ref fa)) (plain : ∀ ns : List Int, ns.length ≤ 63 → (∀ z ∈ ns, Builtin.Int.intBits z ≤ 1048576) → ∃ M, f_law [.scr ns] [] = .ok (.bl true) M) : LawG l w 32 63 "_law_script" mg fa h := by
  obtain ⟨K, cs, S⟩ := Y
  letI : Tb := ⟨tabT cs qs⟩
  obtain ⟨fd, D⟩ := S.fd.def_ 24 (d := h_d_law) rfl
  have e := hmg.symm.trans (He.glo_ok S.kin G (S.fd.fact 39 (f := .glo "law") rfl))
  cases e
  have b := FunD.bindsA (ps := ["_law_script"]) D fun _ _ _ _ _ _ us hl => match us, hl with | [_], _ => rfl
  refine ⟨K, tabT cs qs, cs, fd, f_law, S.kin, fun p hp => tabT_in p hp, S.tab, S.off, S.code, fun s v => b s [v] rfl, plain, fun base X G2 tb => ?_⟩
  obtain ⟨fd2, D2, H2⟩ := fg_law (P := l.prog) (w := w) (fc S X G2 tb) rfl
  obtain ⟨_, _, _, _, _, _, _, _, _, _, e1, k1, _⟩ := D.ex
  obtain ⟨_, _, _, _, _, _, _, _, _, _, e2, k2, _⟩ := D2.ex
  have e3 := k1.symm.trans k2
  simp only [Option.some.injEq, Obj.mk.injEq, Data.func.injEq] at e3
  rw [e3.2.2.1]
  exact H2
abbrev Rw : PySem.W.OpenRow := PySem.W.OpenLaw.row PySem.Challenge.rw_anyaround_k69_whole_stairs_whatever_is_a
abbrev hk : PySem.W.Hook := hookX hob
def ob (s : PySem.W.SharedT) : He.AlD := obX hob (HandSHeadRun.getT s)
theorem ob_eq (s : PySem.W.SharedT) : ob s = hk.obs s.abs := obX_eq (HandSHeadRun.getT_eq s)
end K69
end

section
set_option Elab.async false
set_option linter.all false
set_option maxRecDepth 100000
set_option maxHeartbeats 0
/-! law_k69_whole_stairs_whatever_is_answered: the top, run (printed by gen.py). -/
namespace K69
open PySem PySem.Spec PySem.W PyProof.Rows L2 AM
def loo0 : List Str := ["__name__", "AroundError", "BadAnswer", "BadMost", "BadGain", "is_whole", "is_number", "said", "first_so", "need_behind", "out_with", "learned_stairs", "_law_stream", "_law_draw", "_law_pick", "_law_same", "_law_up", "_law_is_list", "_law_is_whole", "_law_is_stair", "_law_are_stairs", "_law_out", "_law_any_answer", "_law_box", "_law_low_gain", "_law_high_gain", "_law_only_right", "_law_bits", "_law_follows"]
def loo : List Str := loo0
theorem run (w : World) : HandSHeadRun.RunEq Rw (PySem.W.view Rw.prog [32]) hk ob 3000 loo w := by
  intro os
  kernel_rfl
end K69
end

section
set_option Elab.async false
set_option linter.all false
set_option maxRecDepth 100000
set_option maxHeartbeats 0
open PySem PySem.W PySem.Calls PyProof.Rows
theorem K69.holds_of (plain : ∀ ns : List Int, ns.length ≤ 63 → (∀ z ∈ ns, Builtin.Int.intBits z ≤ 1048576) → ∃ M, K69.f_law [.scr ns] [] = .ok (.bl true) M) : PySem.Challenge.rw_anyaround_k69_whole_stairs_whatever_is_a.Holds := by
  w_on; o_law
  refine HandSHeadRun.head_any (r := OpenLaw.row PySem.Challenge.rw_anyaround_k69_whole_stairs_whatever_is_a) (q := view (OpenLaw.row PySem.Challenge.rw_anyaround_k69_whole_stairs_whatever_is_a).prog [32]) (H := K69.hk) (ob := K69.ob) (M := 3000) (loose := K69.loo) (d := HandSHeadRun.topDef (OpenLaw.row PySem.Challenge.rw_anyaround_k69_whole_stairs_whatever_is_a).prog 32) (kwd := []) K69.ob_eq
    (by kernel_rfl) (fun s => by kernel_rfl) K69.run (by kernel_rfl) (by kernel_rfl) (by kernel_rfl) (by rfl) (by first | assumption | decide +kernel) (by decide +kernel) ⟨rfl, rfl, rfl, rfl, rfl, by decide +kernel⟩ ?hw ?hc
  case hw => w_witness2
  case hc =>
    refine AM.am_end (l := PySem.Challenge.rw_anyaround_k69_whole_stairs_whatever_is_a) (n := 63) (k := 32) (x := "_law_script") rfl (by decide) (by kernel_rfl) ⟨rfl, by decide, by decide⟩ ?F
    intro w mg fa h Y G hmg0
    have hmg : mg ("law" : PySem.Str) = some (.ref fa) := by
      have e : (HandSHeadRun.topDef (OpenLaw.row PySem.Challenge.rw_anyaround_k69_whole_stairs_whatever_is_a).prog 32).name = ("law" : PySem.Str) := by kernel_rfl
      rw [← e]
      exact hmg0
    exact K69.law_g Y G hmg plain
end

section
set_option Elab.async false
set_option linter.all false
set_option autoImplicit false
set_option maxRecDepth 100000
set_option maxHeartbeats 4000000
/-! k69, the plain law: what was asked, what was answered, and which stairs that leaves. -/
namespace K69
/-- a question: a stock, a wanted one, the answer -/
structure En where
  s : Int
  w : Int
  b : Bool
abbrev Tld := List (Int × Option Int)
def lastG (T : Tld) (s : Int) : Option (Option Int) := ((T.filter fun p => decide (p.1 ≤ s)).map (·.2)).getLast?
def above (T : Tld) (s w : Int) : Prop := match lastG T s with
  | none => w ≤ -1
  | some none => True
  | some (some g) => w ≤ s + g
def Cons (T : Tld) (e : En) : Prop := e.b = true ↔ above T e.s e.w
def Fresh (L : List En) (s w : Int) : Prop := (∀ e ∈ L, e.b = true → e.s ≤ s → e.w - e.s < w - s) ∧ (∀ e ∈ L, e.b = false → s ≤ e.s → w - s ≤ e.w - e.s - 1)
def NF (L : List En) : Prop := ∀ i e, L[i]? = some e → Fresh (L.take i) e.s e.w
theorem NF.snoc {L : List En} {e : En} (h : NF L) (f : Fresh L e.s e.w) : NF (L ++ [e]) := by
  intro i e' hi
  by_cases q : i < L.length
  · rw [List.getElem?_append_left q] at hi
    rw [List.take_append_of_le_length (by omega)]
    exact h i e' hi
  · rw [List.getElem?_append_right (by omega)] at hi
    have e0 : i - L.length = 0 := by
      cases k : i - L.length with
      | zero => rfl
      | succ m => rw [k] at hi; simp at hi
    rw [e0] at hi
    simp at hi
    subst hi
    have : i = L.length := by omega
    rw [this, List.take_left']
    · exact f
    · rfl
theorem NF.nil : NF [] := by intro i e h; simp at h
def gl (a b : Option Int) : Prop := match a, b with
  | some x, some y => x < y
  | some _, none => True
  | none, _ => False
def Asc (T : Tld) : Prop := T.Pairwise fun p q => p.1 < q.1 ∧ gl p.2 q.2
def tld (F : List (Int × Int)) : Tld := F.map fun p => (p.1, some p.2)
def nxt (F : List (Int × Int)) (x : Int) (i : Nat) : Int := (F.map (·.1) ++ [x]).getD i 0
/-- ahead of a round: stairs so far, the next need, the least stock that is known behind it -/
structure Hd (most gain : Int) (F : List (Int × Int)) (x l : Int) (L : List En) : Prop where
  asc : F.Pairwise fun p q => p.1 < q.1 ∧ p.2 < q.2
  rng : ∀ p ∈ F, 0 ≤ p.1 ∧ p.1 ≤ most ∧ p.1 < x ∧ 0 ≤ p.1 + p.2 ∧ p.2 ≤ gain ∧ p.2 < l - x
  x0 : 0 ≤ x
  xm : x ≤ most + 1
  l0 : 0 ≤ l
  lg : l - x ≤ gain + 1
  yes : x ≤ most → ⟨x, l, true⟩ ∈ L
  up : ∀ e ∈ L, e.b = true → e.w - e.s ≤ l - x
  ahead : ∀ e ∈ L, e.b = false → e.s < x
  cons : ∀ e ∈ L, e.s < x → Cons (tld F) e
  pos : ∀ e ∈ L, 0 ≤ e.w
  sm : ∀ e ∈ L, e.s ≤ most
  nf : NF L
  wit : ∀ (i : Nat) (p : Int × Int), F[i]? = some p → ⟨p.1, p.1 + p.2, true⟩ ∈ L ∧ ⟨nxt F x (i + 1) - 1, nxt F x (i + 1) + p.2, false⟩ ∈ L
  fst : 1 ≤ nxt F x 0 → ⟨nxt F x 0 - 1, 0, false⟩ ∈ L
  ne : L ≠ []
structure P0 (most lo hi : Int) (L : List En) : Prop where
  lo0 : 0 ≤ lo
  lh : lo ≤ hi
  hm : hi ≤ most + 1
  ent : ∀ e ∈ L, e.w = 0 ∧ (e.b = true → hi ≤ e.s) ∧ (e.b = false → e.s < lo)
  sm : ∀ e ∈ L, e.s ≤ most
  yes : hi ≤ most → ⟨hi, 0, true⟩ ∈ L
  no : 1 ≤ lo → ⟨lo - 1, 0, false⟩ ∈ L
  nf : NF L
theorem P0.fresh {most lo hi m : Int} {L : List En} (h : P0 most lo hi L) (h1 : lo ≤ m) (h2 : m < hi) : Fresh L m 0 := by
  refine ⟨fun e he hb hs => ?_, fun e he hb hs => ?_⟩
  · have := (h.ent e he).2.1 hb; omega
  · have := (h.ent e he).2.2 hb; omega
theorem P0.yesS {most lo hi m : Int} {L : List En} (h : P0 most lo hi L) (h1 : lo ≤ m) (h2 : m < hi) : P0 most lo m (L ++ [⟨m, 0, true⟩]) where
  lo0 := h.lo0
  lh := h1
  hm := by have := h.hm; omega
  ent := fun e he => by
    rcases List.mem_append.mp he with he | he
    · obtain ⟨a, b, c⟩ := h.ent e he
      exact ⟨a, fun z => by have := b z; omega, c⟩
    · rw [List.mem_singleton] at he
      subst he
      exact ⟨rfl, fun _ => Int.le_refl _, fun z => by cases z⟩
  sm := fun e he => by
    rcases List.mem_append.mp he with he | he
    · exact h.sm e he
    · rw [List.mem_singleton] at he
      subst he
      have := h.hm
      show m ≤ most
      omega
  yes := fun _ => by simp
  no := fun z => List.mem_append_left _ (h.no z)
  nf := h.nf.snoc (h.fresh h1 h2)
theorem P0.noS {most lo hi m : Int} {L : List En} (h : P0 most lo hi L) (h1 : lo ≤ m) (h2 : m < hi) : P0 most (m + 1) hi (L ++ [⟨m, 0, false⟩]) where
  lo0 := by have := h.lo0; omega
  lh := by omega
  hm := h.hm
  ent := fun e he => by
    rcases List.mem_append.mp he with he | he
    · obtain ⟨a, b, c⟩ := h.ent e he
      exact ⟨a, b, fun z => by have := c z; omega⟩
    · rw [List.mem_singleton] at he
      subst he
      exact ⟨rfl, (fun z => by cases z), fun _ => by show m < m + 1; omega⟩
  sm := fun e he => by
    rcases List.mem_append.mp he with he | he
    · exact h.sm e he
    · rw [List.mem_singleton] at he
      subst he
      have := h.hm
      show m ≤ most
      omega
  yes := fun z => List.mem_append_left _ (h.yes z)
  no := fun _ => by
    have : m + 1 - 1 = m := by omega
    rw [this]
    simp
  nf := h.nf.snoc (h.fresh h1 h2)
theorem P0.start {most : Int} (h : 0 ≤ most) : P0 most 0 (most + 1) [] where
  lo0 := Int.le_refl _
  lh := by omega
  hm := Int.le_refl _
  ent := fun e he => by cases he
  sm := fun e he => by cases he
  yes := fun z => by omega
  no := fun z => by omega
  nf := NF.nil
theorem P0.head {most gain x : Int} {L : List En} (h : P0 most x x L) (hm : 0 ≤ most) (hg : 0 ≤ gain) : Hd most gain [] x 0 L where
  asc := .nil
  rng := fun p hp => by cases hp
  x0 := h.lo0
  xm := h.hm
  l0 := Int.le_refl _
  lg := by have := h.lo0; omega
  yes := h.yes
  up := fun e he hb => by
    obtain ⟨a, b, _⟩ := h.ent e he
    have := b hb
    omega
  ahead := fun e he hb => (h.ent e he).2.2 hb
  cons := fun e he hs => by
    obtain ⟨a, b, _⟩ := h.ent e he
    refine ⟨fun hb => ?_, fun z => ?_⟩
    · have := b hb; omega
    · have z : e.w ≤ -1 := z
      omega
  pos := fun e he => by rw [(h.ent e he).1]; exact Int.le_refl _
  sm := h.sm
  nf := h.nf
  wit := fun i p hp => by simp at hp
  fst := fun z => h.no z
  ne := fun e => by
    subst e
    have h1 := h.yes
    have h2 := h.no
    have h3 := h.hm
    have h4 := h.lo0
    by_cases q : x ≤ most
    · exact absurd (h1 q) (by simp)
    · exact absurd (h2 (by omega)) (by simp)
/-- within the search for the greatest stock behind a need -/
structure PA (most gain : Int) (F : List (Int × Int)) (x l : Int) (L0 : List En) (lo hi : Int) (L : List En) : Prop where
  hd : Hd most gain F x l L0
  xm : x ≤ most
  ll : l ≤ lo
  lh : lo ≤ hi
  hg : hi ≤ x + gain + 1
  ent : ∃ L1, L = L0 ++ L1 ∧ ∀ e ∈ L1, e.s = x ∧ 0 ≤ e.w ∧ (e.b = true → e.w ≤ lo) ∧ (e.b = false → hi + 1 ≤ e.w) ∧ e.w ≤ x + gain + 1
  yes : ⟨x, lo, true⟩ ∈ L
  no : hi < x + gain + 1 → ⟨x, hi + 1, false⟩ ∈ L
  nf : NF L
theorem Hd.startA {most gain : Int} {F : List (Int × Int)} {x l : Int} {L : List En} (h : Hd most gain F x l L) (hx : x ≤ most) : PA most gain F x l L l (x + gain + 1) L where
  hd := h
  xm := hx
  ll := Int.le_refl _
  lh := by have := h.lg; omega
  hg := Int.le_refl _
  ent := ⟨[], by simp, fun e he => by cases he⟩
  yes := h.yes hx
  no := fun z => by omega
  nf := h.nf
section
variable {most gain : Int} {F : List (Int × Int)} {x l lo hi m : Int} {L0 L : List En}
theorem PA.fresh (h : PA most gain F x l L0 lo hi L) (h1 : lo ≤ m) (h2 : m < hi) : Fresh L x (m + 1) := by
  obtain ⟨L1, rfl, hL⟩ := h.ent
  have ll := h.ll
  refine ⟨fun e he hb hs => ?_, fun e he hb hs => ?_⟩
  · rcases List.mem_append.mp he with he | he
    · have := h.hd.up e he hb; omega
    · have := (hL e he).2.2.1 hb; have := (hL e he).1; omega
  · rcases List.mem_append.mp he with he | he
    · have := h.hd.ahead e he hb; omega
    · have := (hL e he).2.2.2.1 hb; have := (hL e he).1; omega
theorem PA.yesS (h : PA most gain F x l L0 lo hi L) (h1 : lo ≤ m) (h2 : m < hi) : PA most gain F x l L0 (m + 1) hi (L ++ [⟨x, m + 1, true⟩]) where
  hd := h.hd
  xm := h.xm
  ll := by have := h.ll; omega
  lh := by omega
  hg := h.hg
  ent := by
    obtain ⟨L1, e, hL⟩ := h.ent
    refine ⟨L1 ++ [⟨x, m + 1, true⟩], by rw [e]; simp, fun e he => ?_⟩
    rcases List.mem_append.mp he with he | he
    · obtain ⟨a, b, c, d⟩ := hL e he
      exact ⟨a, b, fun z => by have := c z; omega, d⟩
    · rw [List.mem_singleton] at he
      subst he
      have := h.ll
      have := h.hd.l0
      have := h.hg
      exact ⟨rfl, by show 0 ≤ m + 1; omega, fun _ => Int.le_refl _, (fun z => by cases z), by show m + 1 ≤ _; omega⟩
  yes := by simp
  no := fun z => List.mem_append_left _ (h.no z)
  nf := h.nf.snoc (h.fresh h1 h2)
theorem PA.noS (h : PA most gain F x l L0 lo hi L) (h1 : lo ≤ m) (h2 : m < hi) : PA most gain F x l L0 lo m (L ++ [⟨x, m + 1, false⟩]) where
  hd := h.hd
  xm := h.xm
  ll := h.ll
  lh := h1
  hg := by have := h.hg; omega
  ent := by
    obtain ⟨L1, e, hL⟩ := h.ent
    refine ⟨L1 ++ [⟨x, m + 1, false⟩], by rw [e]; simp, fun e he => ?_⟩
    rcases List.mem_append.mp he with he | he
    · obtain ⟨a, b, c, d⟩ := hL e he
      exact ⟨a, b, c, (fun z => by have := d.1 z; omega), d.2⟩
    · rw [List.mem_singleton] at he
      subst he
      have := h.ll
      have := h.hd.l0
      have := h.hg
      exact ⟨rfl, by show 0 ≤ m + 1; omega, (fun z => by cases z), (fun _ => Int.le_refl _), by show m + 1 ≤ _; omega⟩
  yes := List.mem_append_left _ h.yes
  no := fun _ => by simp
  nf := h.nf.snoc (h.fresh h1 h2)
/-- within the search for the next need -/
structure PB (most gain : Int) (F : List (Int × Int)) (x g lo hi : Int) (L : List En) : Prop where
  asc : F.Pairwise fun p q => p.1 < q.1 ∧ p.2 < q.2
  rng : ∀ p ∈ F, 0 ≤ p.1 ∧ p.1 ≤ most ∧ p.1 < x ∧ 0 ≤ p.1 + p.2 ∧ p.2 ≤ gain ∧ p.2 < g
  x0 : 0 ≤ x
  xm : x ≤ most
  g0 : 0 ≤ x + g
  gg : g ≤ gain
  b1 : x + 1 ≤ lo
  b2 : lo ≤ hi
  b3 : hi ≤ most + 1
  up : ∀ e ∈ L, e.b = true → e.w - e.s ≤ g ∨ (hi ≤ e.s ∧ e.w - e.s = g + 1)
  nolo : ∀ e ∈ L, e.b = false → e.s < lo
  noW : ∀ e ∈ L, e.b = false → x ≤ e.s → e.s + g + 1 ≤ e.w
  cons : ∀ e ∈ L, e.s < x → Cons (tld F) e
  pos : ∀ e ∈ L, 0 ≤ e.w
  sm : ∀ e ∈ L, e.s ≤ most
  nf : NF L
  wit : ∀ (i : Nat) (p : Int × Int), F[i]? = some p → ⟨p.1, p.1 + p.2, true⟩ ∈ L ∧ ⟨nxt F x (i + 1) - 1, nxt F x (i + 1) + p.2, false⟩ ∈ L
  fst : 1 ≤ nxt F x 0 → ⟨nxt F x 0 - 1, 0, false⟩ ∈ L
  yes0 : ⟨x, x + g, true⟩ ∈ L
  yes : hi ≤ most → ⟨hi, hi + g + 1, true⟩ ∈ L
  no : ⟨lo - 1, lo + g, false⟩ ∈ L
theorem PA.startB {o : Int} (h : PA most gain F x l L0 o o L) (ho : o ≠ x + gain + 1) : PB most gain F x (o - x) (x + 1) (most + 1) L := by
  obtain ⟨L1, rfl, hL⟩ := h.ent
  have ll := h.ll
  have hg := h.hg
  have xm := h.xm
  have l0 := h.hd.l0
  exact {
    asc := h.hd.asc
    rng := fun p hp => by
      obtain ⟨a, b, c, d, e, f⟩ := h.hd.rng p hp
      exact ⟨a, b, c, d, e, by omega⟩
    x0 := h.hd.x0
    xm := xm
    g0 := by omega
    gg := by omega
    b1 := Int.le_refl _
    b2 := by omega
    b3 := Int.le_refl _
    up := fun e he hb => by
      rcases List.mem_append.mp he with he | he
      · have := h.hd.up e he hb; left; omega
      · have := (hL e he).2.2.1 hb; have := (hL e he).1; left; omega
    nolo := fun e he hb => by
      rcases List.mem_append.mp he with he | he
      · have := h.hd.ahead e he hb; omega
      · have := (hL e he).1; omega
    noW := fun e he hb hs => by
      rcases List.mem_append.mp he with he | he
      · have := h.hd.ahead e he hb; omega
      · have := (hL e he).2.2.2.1 hb; have := (hL e he).1; omega
    cons := fun e he hs => by
      rcases List.mem_append.mp he with he | he
      · exact h.hd.cons e he hs
      · have := (hL e he).1; omega
    pos := fun e he => by
      rcases List.mem_append.mp he with he | he
      · exact h.hd.pos e he
      · exact (hL e he).2.1
    sm := fun e he => by
      rcases List.mem_append.mp he with he | he
      · exact h.hd.sm e he
      · have := (hL e he).1; omega
    nf := h.nf
    wit := fun i p hp => ⟨List.mem_append_left _ (h.hd.wit i p hp).1, List.mem_append_left _ (h.hd.wit i p hp).2⟩
    fst := fun z => List.mem_append_left _ (h.hd.fst z)
    yes0 := by
      have : x + (o - x) = o := by omega
      rw [this]
      exact h.yes
    yes := fun z => by omega
    no := by
      have e1 : x + 1 - 1 = x := by omega
      have e2 : x + 1 + (o - x) = o + 1 := by omega
      rw [e1, e2]
      exact h.no (by omega) }
theorem PB.fresh {g : Int} (h : PB most gain F x g lo hi L) (h1 : lo ≤ m) (h2 : m < hi) : Fresh L m (m + g + 1) := by
  refine ⟨fun e he hb hs => ?_, fun e he hb hs => ?_⟩
  · rcases h.up e he hb with z | z <;> omega
  · have := h.nolo e he hb; omega
theorem PB.yesS {g : Int} (h : PB most gain F x g lo hi L) (h1 : lo ≤ m) (h2 : m < hi) : PB most gain F x g lo m (L ++ [⟨m, m + g + 1, true⟩]) := { h with
  b2 := h1
  b3 := by have := h.b3; omega
  up := fun e he hb => by
    rcases List.mem_append.mp he with he | he
    · rcases h.up e he hb with z | z
      · exact .inl z
      · right; omega
    · rw [List.mem_singleton] at he
      subst he
      right
      show m ≤ m ∧ m + g + 1 - m = g + 1
      omega
  nolo := fun e he hb => by
    rcases List.mem_append.mp he with he | he
    · exact h.nolo e he hb
    · rw [List.mem_singleton] at he
      subst he
      cases hb
  noW := fun e he hb => by
    rcases List.mem_append.mp he with he | he
    · exact h.noW e he hb
    · rw [List.mem_singleton] at he
      subst he
      cases hb
  cons := fun e he hs => by
    rcases List.mem_append.mp he with he | he
    · exact h.cons e he hs
    · rw [List.mem_singleton] at he
      subst he
      have hs : m < x := hs
      have := h.b1
      omega
  pos := fun e he => by
    rcases List.mem_append.mp he with he | he
    · exact h.pos e he
    · rw [List.mem_singleton] at he
      subst he
      have := h.b1
      have := h.g0
      show 0 ≤ m + g + 1
      omega
  sm := fun e he => by
    rcases List.mem_append.mp he with he | he
    · exact h.sm e he
    · rw [List.mem_singleton] at he
      subst he
      have := h.b3
      show m ≤ most
      omega
  nf := h.nf.snoc (h.fresh h1 h2)
  wit := fun i p hp => ⟨List.mem_append_left _ (h.wit i p hp).1, List.mem_append_left _ (h.wit i p hp).2⟩
  fst := fun z => List.mem_append_left _ (h.fst z)
  yes0 := List.mem_append_left _ h.yes0
  yes := fun _ => by simp
  no := List.mem_append_left _ h.no }
theorem PB.noS {g : Int} (h : PB most gain F x g lo hi L) (h1 : lo ≤ m) (h2 : m < hi) : PB most gain F x g (m + 1) hi (L ++ [⟨m, m + g + 1, false⟩]) := { h with
  b1 := by have := h.b1; omega
  b2 := by omega
  up := fun e he hb => by
    rcases List.mem_append.mp he with he | he
    · exact h.up e he hb
    · rw [List.mem_singleton] at he
      subst he
      cases hb
  nolo := fun e he hb => by
    rcases List.mem_append.mp he with he | he
    · have := h.nolo e he hb; omega
    · rw [List.mem_singleton] at he
      subst he
      show m < m + 1
      omega
  noW := fun e he hb hs => by
    rcases List.mem_append.mp he with he | he
    · exact h.noW e he hb hs
    · rw [List.mem_singleton] at he
      subst he
      show m + g + 1 ≤ m + g + 1
      omega
  cons := fun e he hs => by
    rcases List.mem_append.mp he with he | he
    · exact h.cons e he hs
    · rw [List.mem_singleton] at he
      subst he
      have hs : m < x := hs
      have := h.b1
      omega
  pos := fun e he => by
    rcases List.mem_append.mp he with he | he
    · exact h.pos e he
    · rw [List.mem_singleton] at he
      subst he
      have := h.b1
      have := h.g0
      show 0 ≤ m + g + 1
      omega
  sm := fun e he => by
    rcases List.mem_append.mp he with he | he
    · exact h.sm e he
    · rw [List.mem_singleton] at he
      subst he
      have := h.b3
      show m ≤ most
      omega
  nf := h.nf.snoc (h.fresh h1 h2)
  wit := fun i p hp => ⟨List.mem_append_left _ (h.wit i p hp).1, List.mem_append_left _ (h.wit i p hp).2⟩
  fst := fun z => List.mem_append_left _ (h.fst z)
  yes0 := List.mem_append_left _ h.yes0
  yes := fun z => List.mem_append_left _ (h.yes z)
  no := by
    have e1 : m + 1 - 1 = m := by omega
    have e2 : m + 1 + g = m + g + 1 := by omega
    rw [e1, e2]
    simp }
end
/-! ### one stair more -/
theorem nxt_at {F : List (Int × Int)} {x : Int} {i : Nat} (h : i ≤ F.length) {y g : Int} : nxt (F ++ [(x, g)]) y i = nxt F x i := by
  unfold nxt
  simp only [List.getD_eq_getElem?_getD, List.map_append, List.map_cons, List.map_nil]
  congr 1
  rw [List.getElem?_append_left (by simp; omega)]
theorem nxt_end {F : List (Int × Int)} {y : Int} : nxt F y F.length = y := by
  unfold nxt
  simp [List.getD_eq_getElem?_getD]
theorem lastG_lt {T : Tld} {x s : Int} {v : Option Int} (h : s < x) : lastG (T ++ [(x, v)]) s = lastG T s := by
  unfold lastG
  rw [List.filter_append]
  have : List.filter (fun p : Int × Option Int => decide (p.1 ≤ s)) [(x, v)] = [] := by
    simp only [List.filter_cons, List.filter_nil]
    rw [if_neg]
    simp
    omega
  rw [this, List.append_nil]
theorem lastG_ge {T : Tld} {x s : Int} {v : Option Int} (h : x ≤ s) : lastG (T ++ [(x, v)]) s = some v := by
  unfold lastG
  rw [List.filter_append]
  have : List.filter (fun p : Int × Option Int => decide (p.1 ≤ s)) [(x, v)] = [(x, v)] := by
    simp only [List.filter_cons, List.filter_nil]
    rw [if_pos]
    simp
    omega
  rw [this, List.map_append]
  simp
theorem cons_lt {T : Tld} {x : Int} {v : Option Int} {e : En} (h : e.s < x) (c : Cons T e) : Cons (T ++ [(x, v)]) e := by
  unfold Cons above at *
  rw [lastG_lt h]
  exact c
theorem tld_snoc {F : List (Int × Int)} {x g : Int} : tld (F ++ [(x, g)]) = tld F ++ [(x, some g)] := by simp [tld]
theorem asc_snoc {F : List (Int × Int)} {x g : Int} (h : F.Pairwise fun p q => p.1 < q.1 ∧ p.2 < q.2) (k : ∀ p ∈ F, p.1 < x ∧ p.2 < g) : (F ++ [(x, g)]).Pairwise fun p q => p.1 < q.1 ∧ p.2 < q.2 := by
  rw [List.pairwise_append]
  refine ⟨h, by simp, fun p hp q hq => ?_⟩
  rw [List.mem_singleton] at hq
  subst hq
  exact k p hp
theorem PB.head {most gain : Int} {F : List (Int × Int)} {x g y : Int} {L : List En} (h : PB most gain F x g y y L) : Hd most gain (F ++ [(x, g)]) y (y + g + 1) L where
  asc := asc_snoc h.asc fun p hp => ⟨(h.rng p hp).2.2.1, (h.rng p hp).2.2.2.2.2⟩
  rng := fun p hp => by
    have b1 := h.b1
    rcases List.mem_append.mp hp with hp | hp
    · obtain ⟨a, b, c, d, e, f⟩ := h.rng p hp
      exact ⟨a, b, by omega, d, e, by omega⟩
    · rw [List.mem_singleton] at hp
      subst hp
      exact ⟨h.x0, h.xm, by show x < y; omega, h.g0, h.gg, by show g < y + g + 1 - y; omega⟩
  x0 := by have := h.x0; have := h.b1; omega
  xm := h.b3
  l0 := by have := h.g0; have := h.b1; omega
  lg := by have := h.gg; omega
  yes := h.yes
  up := fun e he hb => by rcases h.up e he hb with z | z <;> omega
  ahead := h.nolo
  cons := fun e he hs => by
    rw [tld_snoc]
    by_cases q : e.s < x
    · exact cons_lt q (h.cons e he q)
    · unfold Cons above
      rw [lastG_ge (by omega)]
      refine ⟨fun hb => ?_, fun z => ?_⟩
      · show e.w ≤ e.s + g
        rcases h.up e he hb with z | z <;> omega
      · have z : e.w ≤ e.s + g := z
        cases hb : e.b with
        | true => rfl
        | false => have := h.noW e he hb (by omega); omega
  pos := h.pos
  sm := h.sm
  nf := h.nf
  wit := fun i p hp => by
    by_cases q : i < F.length
    · rw [List.getElem?_append_left q] at hp
      rw [nxt_at (by omega)]
      exact h.wit i p hp
    · rw [List.getElem?_append_right (by omega)] at hp
      have e0 : i - F.length = 0 := by
        cases k : i - F.length with
        | zero => rfl
        | succ m => rw [k] at hp; simp at hp
      rw [e0] at hp
      simp at hp
      subst hp
      have e1 : i + 1 = (F ++ [(x, g)]).length := by simp; omega
      rw [e1, nxt_end]
      exact ⟨h.yes0, h.no⟩
  fst := by
    rw [nxt_at (by omega)]
    exact h.fst
  ne := fun e => by
    have := h.yes0
    rw [e] at this
    cases this
/-! ### the end -/
/-- the last stock ahead of each stair, and the greatest one -/
def ends (most : Int) (T : Tld) : List Int := T.map (fun p => p.1 - 1) ++ [most]
structure Fin (most gain : Int) (T : Tld) (L : List En) : Prop where
  asc : Asc T
  rng : ∀ p ∈ T, 0 ≤ p.1 ∧ p.1 ≤ most ∧ ∀ g, p.2 = some g → 0 ≤ p.1 + g ∧ g ≤ gain
  cons : ∀ e ∈ L, Cons T e
  pos : ∀ e ∈ L, 0 ≤ e.w
  sm : ∀ e ∈ L, e.s ≤ most
  nf : NF L
  ne : L ≠ []
  fst : 0 ≤ (ends most T).getD 0 0 → ⟨(ends most T).getD 0 0, 0, false⟩ ∈ L
  wit : ∀ (i : Nat) (p : Int × Option Int), T[i]? = some p → match p.2 with
    | some g => ⟨p.1, p.1 + g, true⟩ ∈ L ∧ ⟨(ends most T).getD (i + 1) 0, (ends most T).getD (i + 1) 0 + g + 1, false⟩ ∈ L
    | none => ⟨p.1, p.1 + gain + 1, true⟩ ∈ L
theorem asc_tld {F : List (Int × Int)} (h : F.Pairwise fun p q => p.1 < q.1 ∧ p.2 < q.2) : Asc (tld F) := by
  unfold Asc tld
  rw [List.pairwise_map]
  exact h
theorem ends_tld {F : List (Int × Int)} {most : Int} {i : Nat} (h : i ≤ F.length) : (ends most (tld F)).getD i 0 = nxt F (most + 1) i - 1 := by
  unfold ends nxt tld
  simp only [List.getD_eq_getElem?_getD, List.map_map]
  by_cases q : i < F.length
  · rw [List.getElem?_append_left (by simpa using q), List.getElem?_append_left (by simpa using q)]
    simp [List.getElem?_eq_getElem q]
  · have : i = F.length := by omega
    subst this
    simp
theorem ends_snoc {F : List (Int × Int)} {most x : Int} {i : Nat} (h : i ≤ F.length) : (ends most (tld F ++ [(x, none)])).getD i 0 = nxt F x i - 1 := by
  unfold ends nxt tld
  simp only [List.getD_eq_getElem?_getD, List.map_map, List.map_append, List.map_cons, List.map_nil]
  rw [List.getElem?_append_left (by simp; omega)]
  by_cases q : i < F.length
  · rw [List.getElem?_append_left (by simpa using q), List.getElem?_append_left (by simpa using q)]
    simp [List.getElem?_eq_getElem q]
  · have : i = F.length := by omega
    subst this
    simp
theorem tld_get {F : List (Int × Int)} {i : Nat} {p : Int × Option Int} (h : (tld F)[i]? = some p) : ∃ q, F[i]? = some q ∧ p = (q.1, some q.2) := by
  unfold tld at h
  rw [List.getElem?_map] at h
  cases k : F[i]? with
  | none => rw [k] at h; cases h
  | some q => rw [k] at h; exact ⟨q, rfl, (Option.some.inj h).symm⟩
theorem len_of {α : Type} {l : List α} {i : Nat} {a : α} (h : l[i]? = some a) : i < l.length := (List.getElem?_eq_some_iff.mp h).1
theorem Hd.fin {most gain : Int} {F : List (Int × Int)} {l : Int} {L : List En} {x : Int} (h : Hd most gain F x l L) (hx : most < x) : Fin most gain (tld F) L := by
  have ex : x = most + 1 := by have := h.xm; omega
  subst ex
  exact {
    asc := asc_tld h.asc
    rng := fun p hp => by
      obtain ⟨q, hq, rfl⟩ := List.mem_map.mp hp
      obtain ⟨a, b, c, d, e, f⟩ := h.rng q hq
      exact ⟨a, b, fun g hg => by cases hg; exact ⟨d, e⟩⟩
    cons := fun e he => h.cons e he (by have := h.sm e he; omega)
    pos := h.pos
    sm := h.sm
    nf := h.nf
    ne := h.ne
    fst := by
      rw [ends_tld (by omega)]
      intro z
      exact h.fst (by omega)
    wit := fun i p hp => by
      obtain ⟨q, hq, rfl⟩ := tld_get hp
      have := h.wit i q hq
      have hl := len_of hq
      show _ ∧ _
      rw [ends_tld (by omega)]
      refine ⟨this.1, ?_⟩
      have e : nxt F (most + 1) (i + 1) - 1 + q.2 + 1 = nxt F (most + 1) (i + 1) + q.2 := by omega
      rw [e]
      exact this.2 }
theorem PA.fin {most gain : Int} {F : List (Int × Int)} {x l : Int} {L0 L : List En} (h : PA most gain F x l L0 (x + gain + 1) (x + gain + 1) L) : Fin most gain (tld F ++ [(x, none)]) L := by
  obtain ⟨L1, e, hL⟩ := h.ent
  have inL : ∀ {e : En}, e ∈ L0 → e ∈ L := fun he => by rw [e]; exact List.mem_append_left _ he
  exact {
    asc := by
      unfold Asc
      rw [List.pairwise_append]
      refine ⟨asc_tld h.hd.asc, by simp, fun p hp q hq => ?_⟩
      rw [List.mem_singleton] at hq
      subst hq
      obtain ⟨q, hq, rfl⟩ := List.mem_map.mp hp
      exact ⟨(h.hd.rng q hq).2.2.1, trivial⟩
    rng := fun p hp => by
      rcases List.mem_append.mp hp with hp | hp
      · obtain ⟨q, hq, rfl⟩ := List.mem_map.mp hp
        obtain ⟨a, b, c, d, e, f⟩ := h.hd.rng q hq
        exact ⟨a, b, fun g hg => by cases hg; exact ⟨d, e⟩⟩
      · rw [List.mem_singleton] at hp
        subst hp
        exact ⟨h.hd.x0, h.xm, fun g hg => by cases hg⟩
    cons := fun e' he => by
      rw [e] at he
      rcases List.mem_append.mp he with he | he
      · by_cases q : e'.s < x
        · exact cons_lt q (h.hd.cons e' he q)
        · unfold Cons above
          rw [lastG_ge (by omega)]
          refine ⟨fun _ => trivial, fun _ => ?_⟩
          cases hb : e'.b with
          | true => rfl
          | false => exact absurd (h.hd.ahead e' he hb) q
      · have hs := (hL e' he).1
        unfold Cons above
        rw [lastG_ge (by omega)]
        refine ⟨fun _ => trivial, fun _ => ?_⟩
        cases hb : e'.b with
        | true => rfl
        | false => have := (hL e' he).2.2.2.1 hb; have := (hL e' he).2.2.2.2; omega
    pos := fun e' he => by
      rw [e] at he
      rcases List.mem_append.mp he with he | he
      · exact h.hd.pos e' he
      · exact (hL e' he).2.1
    sm := fun e' he => by
      rw [e] at he
      rcases List.mem_append.mp he with he | he
      · exact h.hd.sm e' he
      · have := (hL e' he).1; have := h.xm; omega
    nf := h.nf
    ne := fun z => by
      have := h.yes
      rw [z] at this
      cases this
    fst := by
      rw [ends_snoc (by omega)]
      intro z
      exact inL (h.hd.fst (by omega))
    wit := fun i p hp => by
      by_cases q : i < F.length
      · rw [List.getElem?_append_left (by simpa [tld] using q)] at hp
        obtain ⟨q', hq, rfl⟩ := tld_get hp
        have := h.hd.wit i q' hq
        show _ ∧ _
        rw [ends_snoc (by omega)]
        refine ⟨inL this.1, ?_⟩
        have e : nxt F x (i + 1) - 1 + q'.2 + 1 = nxt F x (i + 1) + q'.2 := by omega
        rw [e]
        exact inL this.2
      · rw [List.getElem?_append_right (by simp [tld]; omega)] at hp
        have e0 : i - (tld F).length = 0 := by
          cases k : i - (tld F).length with
          | zero => rfl
          | succ m => rw [k] at hp; simp at hp
        rw [e0] at hp
        simp at hp
        subst hp
        exact h.yes }
end K69
end

section
set_option Elab.async false
set_option linter.all false
set_option autoImplicit false
set_option maxRecDepth 100000
set_option maxHeartbeats 4000000
/-! AP 1: the plain side: posts of computations; the stream of draws. -/
namespace AP
open PySem AM L2

/-! ### posts -/
def OkR {α : Type} (r : R α) (Q : α → AH → Prop) : Prop := match r with
  | .ok a M => Q a M
  | _ => False
theorem OkR.bind {α β : Type} {r : R α} {k : α → AH → R β} {Q : β → AH → Prop} (h : OkR r fun a M => OkR (k a M) Q) : OkR (r.bind k) Q := by
  cases r with
  | ok a M => exact h
  | exc c fs M => exact h
  | bad => exact h
theorem OkR.imp {α : Type} {r : R α} {Q Q' : α → AH → Prop} (h : OkR r Q) (k : ∀ a M, Q a M → Q' a M) : OkR r Q' := by
  cases r with
  | ok a M => exact k _ _ h
  | exc c fs M => exact h
  | bad => exact h
theorem OkR.eq {α : Type} {r : R α} {Q : α → AH → Prop} (h : OkR r Q) : ∃ a M, r = .ok a M ∧ Q a M := by
  cases r with
  | ok a M => exact ⟨a, M, rfl, h⟩
  | exc c fs M => exact h.elim
  | bad => exact h.elim
def OkS (r : RS) (N : AM.Loc → AH → Prop) (T : AV → AH → Prop) : Prop := match r with
  | .nx vs M => N vs M
  | .rt a M => T a M
  | _ => False
theorem OkS.imp {r : RS} {N N' : AM.Loc → AH → Prop} {T T' : AV → AH → Prop} (h : OkS r N T) (k : ∀ vs M, N vs M → N' vs M) (l : ∀ a M, T a M → T' a M) : OkS r N' T' := by
  cases r with
  | nx vs M => exact k _ _ h
  | rt a M => exact l _ _ h
  | _ => exact h
section
variable {N : AM.Loc → AH → Prop} {T : AV → AH → Prop} {vs : AM.Loc} {M : AH}
theorem ok_fn {n : Nat} {b : CS} {as : List SV} {Q : AV → AH → Prop} (h : OkS (b (startL n as) M) (fun _ M => Q .non M) Q) : OkR (fnRun n b as M) Q := by
  unfold fnRun
  cases e : b (startL n as) M with
  | nx vs M => rw [e] at h; exact h
  | rt a M => rw [e] at h; exact h
  | bk vs M => rw [e] at h; exact h.elim
  | ct vs M => rw [e] at h; exact h.elim
  | exc c fs vs M => rw [e] at h; exact h.elim
  | bad => rw [e] at h; exact h.elim
theorem ok_seq {a b : CS} (h : OkS (a vs M) (fun vs M => OkS (b vs M) N T) T) : OkS (seqC a b vs M) N T := by
  unfold seqC
  cases e : a vs M <;> rw [e] at h <;> exact h
theorem ok_then {α : Type} {r : R α} {k : α → AH → RS} (h : OkR r fun a M => OkS (k a M) N T) : OkS (thenS r vs k) N T := by
  cases r with
  | ok a M => exact h
  | exc c fs M => exact h.elim
  | bad => exact h.elim
theorem ok_ret {c : CE} (h : OkR (c vs M) T) : OkS (retC c vs M) N T := ok_then h
theorem ok_if {t : CT} {a b : CS} (h : OkR (t vs M) fun k M => OkS (if k = true then a vs M else b vs M) N T) : OkS (ifS t a b vs M) N T := ok_then h
theorem ok_set {c : CE} {i : Nat} (h : OkR (c vs M) fun a M => N (vs.set i (some (.val a))) M) : OkS (asgC c (nameG i) vs M) N T := ok_then (h.imp fun a M z => z)
theorem ok_drop {c : CE} (h : OkR (c vs M) fun _ M => N vs M) : OkS (dropC c vs M) N T := ok_then h
/-- a for loop, over its items -/
theorem ok_loop {it : IT} {g : CG} {b : CS} (I : List AV → AM.Loc → AH → Prop) (hok : ∀ xs vs M, I xs vs M → it.ok M = true) (hs : ∀ x xs vs M, I (x :: xs) vs M → OkS (turnC g b x vs M) (fun vs M => I xs vs M) T) (he : ∀ vs M, I [] vs M → N vs M) :
    ∀ (xs : List AV) (vs : AM.Loc) (M : AH), I xs vs M → OkS (loopC it g b xs vs M) N T
  | [], vs, M, h => by
    unfold loopC
    rw [if_pos (hok _ _ _ h)]
    exact he _ _ h
  | x :: xs, vs, M, h => by
    unfold loopC
    rw [if_pos (hok _ _ _ h)]
    have z := hs _ _ _ _ h
    cases e : turnC g b x vs M with
    | nx vs1 M1 => rw [e] at z; exact ok_loop I hok hs he xs vs1 M1 z
    | rt a M1 => rw [e] at z; exact z
    | bk vs1 M1 => rw [e] at z; exact z.elim
    | ct vs1 M1 => rw [e] at z; exact z.elim
    | exc c fs vs1 M1 => rw [e] at z; exact z.elim
    | bad => rw [e] at z; exact z.elim
theorem ok_turn {i : Nat} {b : CS} {x : AV} (h : OkS (b (vs.set i (some (.val x))) M) N T) : OkS (turnC (nameG i) b x vs M) N T := h
/-- a while loop, by a measure -/
theorem ok_while {t : CT} {b : CS} (I : Nat → AM.Loc → AH → Prop) (hs : ∀ n vs M, I n vs M → OkR (t vs M) fun k M1 => if k = true then ∃ m, n = m + 1 ∧ OkS (b vs M1) (fun vs M => I m vs M) T else N vs M1) :
    ∀ (n k : Nat) (vs : AM.Loc) (M : AH), n < k → I n vs M → OkS (whileN t b k vs M) N T
  | n, 0, vs, M, hk, h => absurd hk (by omega)
  | n, k + 1, vs, M, hk, h => by
    unfold whileN
    refine ok_then ((hs n vs M h).imp fun q M1 z => ?_)
    cases q with
    | false => exact z
    | true =>
      obtain ⟨m, e, z⟩ := z
      show OkS (match b vs M1 with
        | .nx vs1 M2 => whileN t b k vs1 M2
        | .ct vs1 M2 => whileN t b k vs1 M2
        | .bk vs1 M2 => .nx vs1 M2
        | r => r) N T
      cases e2 : b vs M1 with
      | nx vs1 M2 => rw [e2] at z; exact ok_while I hs m k vs1 M2 (by omega) z
      | rt a M2 => rw [e2] at z; exact z
      | bk vs1 M2 => rw [e2] at z; exact z.elim
      | ct vs1 M2 => rw [e2] at z; exact z.elim
      | exc c fs vs1 M2 => rw [e2] at z; exact z.elim
      | bad => rw [e2] at z; exact z.elim
end
/-! ### the heap -/
theorem get_lt {M : AH} {i : Nat} {o : AO} (h : M[i]? = some o) : i < M.length := (List.getElem?_eq_some_iff.mp h).1
theorem set_get {M : AH} {i : Nat} {o o' : AO} (h : M[i]? = some o) : (M.set i o')[i]? = some o' := List.getElem?_set_self (get_lt h)
theorem set_ne {M : AH} {i j : Nat} {o' : AO} (h : i ≠ j) : (M.set i o')[j]? = M[j]? := List.getElem?_set_ne h
theorem app_get {M L : AH} {i : Nat} {o : AO} (h : M[i]? = some o) : (M ++ L)[i]? = some o := by rw [List.getElem?_append_left (get_lt h)]; exact h
/-- all but the two stay -/
structure Fr (s n : Nat) (M M' : AH) : Prop where
  len : M.length ≤ M'.length
  get : ∀ i o, i ≠ s → i ≠ n → M[i]? = some o → M'[i]? = some o
theorem Fr.refl {s n : Nat} {M : AH} : Fr s n M M := ⟨Nat.le_refl _, fun _ _ _ _ h => h⟩
theorem Fr.trans {s n : Nat} {M M1 M2 : AH} (a : Fr s n M M1) (b : Fr s n M1 M2) : Fr s n M M2 := ⟨Nat.le_trans a.len b.len, fun i o h1 h2 h => b.get i o h1 h2 (a.get i o h1 h2 h)⟩
theorem Fr.app {s n : Nat} {M L : AH} : Fr s n M (M ++ L) := ⟨by simp, fun _ _ _ _ h => app_get h⟩
theorem Fr.setS {s n : Nat} {M : AH} {o : AO} : Fr s n M (M.set s o) := ⟨by simp, fun i o' h1 h2 h => by rw [set_ne (Ne.symm h1)]; exact h⟩
theorem Fr.setN {s n : Nat} {M : AH} {o : AO} : Fr s n M (M.set n o) := ⟨by simp, fun i o' h1 h2 h => by rw [set_ne (Ne.symm h2)]; exact h⟩
/-! ### data -/
theorem datAll_map {M : AH} {n : Nat} {α : Type} {f : α → AV} {g : α → PyData} (h : ∀ x, dat M n (f x) = some (g x)) : ∀ xs : List α, datAll (dat M n) (xs.map f) = some (xs.map g)
  | [] => rfl
  | x :: xs => by
    show (match dat M n (f x), datAll (dat M n) (xs.map f) with
      | some d, some ds => some (d :: ds)
      | _, _ => none) = _
    rw [h, datAll_map h xs]
    rfl
end AP
end

section
set_option Elab.async false
set_option linter.all false
set_option autoImplicit false
set_option maxRecDepth 100000
set_option maxHeartbeats 4000000
/-! AP 2: the stream: draw, pick. -/
namespace AP
open PySem AM L2

theorem canLay_ints : ∀ ns : List Int, PyData.canLayAll0 (ns.map .int) = true
  | [] => by simp [PyData.canLayAll0]
  | n :: ns => by simp [PyData.canLayAll0, PyData.canLay0, canLay_ints ns]
theorem depth_ints : ∀ ns : List Int, PyData.depthAll (ns.map .int) ≤ 1
  | [] => by simp [PyData.depthAll]
  | n :: ns => by
    have := depth_ints ns
    simp [PyData.depthAll, PyData.depth]
    omega
theorem datS_ints {M : AH} {n : Nat} {ns : List Int} (h : M[n]? = some (.lst (ns.map .int))) : datS M (.ref n) = some (.list (ns.map .int)) := by
  have e : dat M 40 (.ref n) = some (.list (ns.map .int)) := by
    show (match M[n]? with
      | some (.lst xs) => (datAll (dat M 39) xs).map PyData.list
      | some (.frz xs) => (datAll (dat M 39) xs).map PyData.list
      | _ => none) = _
    rw [h]
    show (datAll (dat M 39) (ns.map AV.int)).map PyData.list = _
    rw [datAll_map (f := AV.int) (g := PyData.int) (fun x => rfl)]
    rfl
  unfold datS
  rw [e]
  have := depth_ints ns
  have s : SeqAt.shaped (.list (ns.map .int)) = true := by
    unfold SeqAt.shaped
    simp [PyData.canLay0, canLay_ints, PyData.depth]
    omega
  show (if SeqAt.shaped (.list (ns.map .int)) = true then some (PyData.list (ns.map .int)) else none) = _
  rw [if_pos s]
theorem datS_int {M : AH} {i : Int} : datS M (.int i) = some (.int i) := by
  have s : SeqAt.shaped (.int i) = true := by simp [SeqAt.shaped, PyData.canLay0, PyData.depth]
  show (if SeqAt.shaped (.int i) = true then some (PyData.int i) else none) = _
  rw [if_pos s]
theorem datS_nil {M : AH} {n : Nat} (h : M[n]? = some (.lst [])) : datS M (.ref n) = some (.list []) := datS_ints (ns := []) h
theorem opEq_int {M : AH} {i j : Int} : opEq (.int i) (.int j) M = .ok (.bl (i == j)) M := by
  unfold opEq
  rw [datS_int, datS_int]
  simp [PyData.eqv]
/-- the stream of draws: its list at s, the script's rest at n; it was drawn at most c times -/
structure Strm (s n : Nat) (c : Nat) (M : AH) : Prop where
  ne : s ≠ n
  ex : ∃ (cur cnt st : Int) (ns : List Int), M[s]? = some (.lst [.ref n, .int cur, .int cnt, .int st]) ∧ M[n]? = some (.lst (ns.map .int)) ∧ 0 ≤ cur ∧ 0 ≤ cnt ∧ cnt ≤ c ∧ 0 ≤ st ∧ st < 2147483647 ∧ ns.length ≤ 63
theorem Strm.mono {s n c c' : Nat} {M : AH} (h : Strm s n c M) (k : c ≤ c') : Strm s n c' M := by
  obtain ⟨ne, cur, cnt, st, ns, h1, h2, h3, h4, h5, h6⟩ := h
  exact ⟨ne, cur, cnt, st, ns, h1, h2, h3, h4, by omega, h6⟩
theorem Strm.app {s n c : Nat} {M L : AH} (h : Strm s n c M) : Strm s n c (M ++ L) := by
  obtain ⟨ne, cur, cnt, st, ns, h1, h2, h3⟩ := h
  exact ⟨ne, cur, cnt, st, ns, app_get h1, app_get h2, h3⟩
theorem Strm.set {s n c i : Nat} {M : AH} {o : AO} (h : Strm s n c M) (h1 : i ≠ s) (h2 : i ≠ n) : Strm s n c (M.set i o) := by
  obtain ⟨ne, cur, cnt, st, ns, e1, e2, h3⟩ := h
  exact ⟨ne, cur, cnt, st, ns, by rw [set_ne h1]; exact e1, by rw [set_ne h2]; exact e2, h3⟩
/-- reading and writing a list -/
theorem isD_lst {M : AH} {s : Nat} {xs : List AV} (h : M[s]? = some (.lst xs)) : isD (.ref s) M = false := by simp [isD, dctOf, h]
theorem ix_at {M : AH} {s : Nat} {xs : List AV} {i : Int} {x : AV} (h : M[s]? = some (.lst xs)) (e : atI xs i = some x) : opIx (.ref s) (.int i) M = .ok x M := by
  simp [opIx, isD_lst h, opIxS, seqA, h, e]
theorem put_at {M : AH} {s : Nat} {xs : List AV} {i : Int} {k : Nat} {v : AV} (h : M[s]? = some (.lst xs)) (e : ixN xs.length i = some k) : setA (.ref s) (.int i) v M = .ok () (M.set s (.lst (xs.set k v))) := by
  simp [setA, isD_lst h, setL, h, e]
theorem ix_tup {M : AH} {xs : List AV} {i : Int} {x : AV} (e : atI xs i = some x) : opIx (.tup xs) (.int i) M = .ok x M := by
  simp [opIx, isD, dctOf, opIxS, seqA, e]
end AP
end

section
set_option Elab.async false
set_option linter.all false
set_option autoImplicit false
set_option maxRecDepth 100000
set_option maxHeartbeats 4000000
/-! AP 3: a draw. -/
namespace AP
open PySem AM L2

def c_draw : CS := (seqC (asgC (bin2 opAdd (bin2 opIx (varC 0) (conC (.int 2))) (conC (.int 1))) (subG (varC 0) (conC (.int 2))))
  (seqC (whileC (andT (cmpT opEq (bin2 opIx (varC 0) (conC (.int 1))) (conC (.int 0))) (cmpT opNe (bin2 opIx (varC 0) (conC (.int 0))) (argsC lstA nilA)))
  (seqC (asgC (argsC absA (consA (methK (onT "list" mPop1) (bin2 opIx (varC 0) (conC (.int 0))) (consA (conC (.int 0)) nilA)) nilA)) (nameG 2))
  (seqC (asgC (bin2 opMod (argsC intA (consA (bin2 opAdd (bin2 opAdd (bin2 opMul (bin2 opIx (varC 0) (conC (.int 3))) (conC (.int 8191))) (varC 2)) (conC (.int 3))) nilA)) (conC (.int 2147483647))) (subG (varC 0) (conC (.int 3))))
  (asgC (ifC (cmpT opGe (varC 2) (bin2 opPow (conC (.int 10)) (conC (.int 18)))) (varC 2) (conC (.int 0))) (subG (varC 0) (conC (.int 1)))))))
  (seqC (ifS (cmpT opGt (bin2 opIx (varC 0) (conC (.int 1))) (conC (.int 0)))
  (seqC (asgC (bin2 opMod (argsC intA (consA (bin2 opIx (varC 0) (conC (.int 1))) nilA)) (varC 1)) (nameG 3))
  (seqC (asgC (bin2 opDiv (bin2 opIx (varC 0) (conC (.int 1))) (varC 1)) (subG (varC 0) (conC (.int 1))))
  (retC (varC 3))))
  skipC)
  (seqC (asgC (bin2 opMod (argsC intA (consA (bin2 opPow (bin2 opAdd (bin2 opAdd (bin2 opIx (varC 0) (conC (.int 3))) (bin2 opMul (conC (.int 7919)) (bin2 opIx (varC 0) (conC (.int 2))))) (conC (.int 104729))) (conC (.int 5))) nilA)) (conC (.int 2147483629))) (nameG 4))
  (retC (bin2 opMod (bin2 opMod (argsC intA (consA (bin2 opPow (bin2 opAdd (bin2 opAdd (bin2 opMul (varC 4) (conC (.int 48271))) (bin2 opMul (conC (.int 30011)) (bin2 opIx (varC 0) (conC (.int 2))))) (conC (.int 29))) (conC (.int 3))) nilA)) (conC (.int 1000000007))) (varC 1)))))))
def f_draw : List SV → AH → R AV := fnRun 5 c_draw
/-- a stream's list of four -/
def S4 (s n : Nat) (cur cnt st : Int) (M : AH) : Prop := M[s]? = some (.lst [.ref n, .int cur, .int cnt, .int st])
section
variable {s n : Nat} {cur cnt st : Int} {M : AH}
theorem S4.i0 (h : S4 s n cur cnt st M) : opIx (.ref s) (.int 0) M = .ok (.ref n) M := ix_at h rfl
theorem S4.i1 (h : S4 s n cur cnt st M) : opIx (.ref s) (.int 1) M = .ok (.int cur) M := ix_at h rfl
theorem S4.i2 (h : S4 s n cur cnt st M) : opIx (.ref s) (.int 2) M = .ok (.int cnt) M := ix_at h rfl
theorem S4.i3 (h : S4 s n cur cnt st M) : opIx (.ref s) (.int 3) M = .ok (.int st) M := ix_at h rfl
theorem S4.p1 (h : S4 s n cur cnt st M) (v : Int) : ∃ M', setA (.ref s) (.int 1) (.int v) M = .ok () M' ∧ S4 s n v cnt st M' ∧ Fr s n M M' ∧ ∀ i, i ≠ s → M'[i]? = M[i]? := ⟨_, put_at h rfl, set_get h, Fr.setS, fun i hi => set_ne (Ne.symm hi)⟩
theorem S4.p2 (h : S4 s n cur cnt st M) (v : Int) : ∃ M', setA (.ref s) (.int 2) (.int v) M = .ok () M' ∧ S4 s n cur v st M' ∧ Fr s n M M' ∧ ∀ i, i ≠ s → M'[i]? = M[i]? := ⟨_, put_at h rfl, set_get h, Fr.setS, fun i hi => set_ne (Ne.symm hi)⟩
theorem S4.p3 (h : S4 s n cur cnt st M) (v : Int) : ∃ M', setA (.ref s) (.int 3) (.int v) M = .ok () M' ∧ S4 s n cur cnt v M' ∧ Fr s n M M' ∧ ∀ i, i ≠ s → M'[i]? = M[i]? := ⟨_, put_at h rfl, set_get h, Fr.setS, fun i hi => set_ne (Ne.symm hi)⟩
end
/-- what a draw leaves -/
def Drw (s n c : Nat) (m : Int) (M : AH) (a : AV) (M' : AH) : Prop := ∃ d : Int, a = .int d ∧ 0 ≤ d ∧ d < m ∧ Strm s n (c + 1) M' ∧ Fr s n M M'
theorem log2_lt {i : Int} {k : Nat} (h : i.natAbs < 2 ^ k) (hk : 0 < k) : i.natAbs.log2 < k := by
  by_cases z : i.natAbs = 0
  · rw [z]; simpa using hk
  · exact (Nat.log2_lt z).mpr h
/-- the while's state -/
def WI (s n : Nat) (m cnt : Int) (M0 : AH) (k : Nat) (vs : AM.Loc) (M : AH) : Prop := ∃ (z : Option SV) (cur st : Int) (ns : List Int), vs = [some (.val (.ref s)), some (.val (.int m)), z, none, none] ∧ S4 s n cur cnt st M ∧ M[n]? = some (.lst (ns.map .int)) ∧ 0 ≤ cur ∧ 0 ≤ st ∧ st < 2147483647 ∧ ns.length ≤ 63 ∧ k = ns.length ∧ Fr s n M0 M
theorem draw_ok {s n c : Nat} {m : Int} {M : AH} (h : Strm s n c M) (hc : c < 2 ^ 40) (hm : 0 < m) (hm2 : m < 2 ^ 60) : OkR (f_draw [.val (.ref s), .val (.int m)] M) (Drw s n c m M) := by
  obtain ⟨ne, cur, cnt, st, ns, h1, h2, h3, h4, h5, h6, h7, h8⟩ := h
  have S : S4 s n cur cnt st M := h1
  refine ok_fn (ok_seq ?_)
  obtain ⟨M1, e1, S1, f1, g1⟩ := S.p2 (cnt + 1)
  have E : asgC (bin2 opAdd (bin2 opIx (varC 0) (conC (.int 2))) (conC (.int 1))) (subG (varC 0) (conC (.int 2))) (startL 5 [.val (.ref s), .val (.int m)]) M = .nx [some (.val (.ref s)), some (.val (.int m)), none, none, none] M1 := by
    simp [asgC, bin2, varC, conC, startL, S.i2, opAdd, subG, thenS, onlyG, e1]
  rw [E]
  show OkS (seqC _ _ _ M1) _ _
  have n1 : M1[n]? = some (.lst (ns.map .int)) := by rw [g1 n (Ne.symm ne)]; exact h2
  refine ok_seq (OkS.imp (ok_while (N := fun vs M2 => ∃ k, WI s n m (cnt + 1) M k vs M2) (T := fun _ _ => False) (WI s n m (cnt + 1) M) ?step ns.length wfuel _ _ ?fuel ⟨none, cur, st, ns, rfl, S1, n1, h3, h6, h7, h8, rfl, f1⟩) ?after fun _ _ z => z.elim)
  case fuel => unfold wfuel; omega
  case step =>
    rintro k vs M2 ⟨z, cur, st, ns, rfl, S, hn, hc0, hs0, hs1, hl, rfl, fr⟩
    by_cases q : cur = 0
    · subst q
      have tn : opNe (.ref n) (.ref M2.length) (M2 ++ [.lst []]) = .ok (.bl (!PyData.eqvAll (ns.map .int) [])) (M2 ++ [.lst []]) := by
        unfold opNe
        rw [datS_ints (app_get hn), datS_nil (by simp)]
        simp [PyData.eqv]
      have T : andT (cmpT opEq (bin2 opIx (varC 0) (conC (.int 1))) (conC (.int 0))) (cmpT opNe (bin2 opIx (varC 0) (conC (.int 0))) (argsC lstA nilA)) [some (.val (.ref s)), some (.val (.int m)), z, none, none] M2 = .ok (!PyData.eqvAll (ns.map .int) []) (M2 ++ [.lst []]) := by
        simp [andT, cmpT, bin2, varC, conC, S.i1, S.i0, opEq_int, tstA, argsC, nilA, lstA, tn]
      rw [T]
      have S' : S4 s n 0 (cnt + 1) st (M2 ++ [.lst []]) := app_get S
      have hn' : (M2 ++ [.lst []])[n]? = some (.lst (ns.map .int)) := app_get hn
      have fr' : Fr s n M (M2 ++ [.lst []]) := fr.trans Fr.app
      generalize M2 ++ [.lst []] = M3 at S' hn' fr'
      cases ns with
      | nil => exact ⟨_, z, 0, st, [], rfl, S', hn', hc0, hs0, hs1, hl, rfl, fr'⟩
      | cons x ns =>
        refine ⟨ns.length, rfl, ok_seq ?_⟩
        have pp : mPop1 (.ref n) [.int 0] M3 = .ok (.int x) (M3.set n (.lst (ns.map .int))) := by
          simp [mPop1, hn', ixN]
        have kd : kindA (.ref n) M3 = "list" := by simp [kindA, hn']
        have E1 : asgC (argsC absA (consA (methK (onT "list" mPop1) (bin2 opIx (varC 0) (conC (.int 0))) (consA (conC (.int 0)) nilA)) nilA)) (nameG 2) [some (.val (.ref s)), some (.val (.int m)), z, none, none] M3 =
            .nx [some (.val (.ref s)), some (.val (.int m)), some (.val (.int (if x < 0 then -x else x))), none, none] (M3.set n (.lst (ns.map .int))) := by
          simp [asgC, argsC, consA, nilA, methK, bin2, varC, conC, S'.i0, kd, onT, pp, absA, nameG, onlyG]
        rw [E1]
        have S2 : S4 s n 0 (cnt + 1) st (M3.set n (.lst (ns.map .int))) := by unfold S4; rw [set_ne (Ne.symm ne)]; exact S'
        have hn2 : (M3.set n (.lst (ns.map .int)))[n]? = some (.lst (ns.map .int)) := set_get hn'
        have fr2 : Fr s n M (M3.set n (.lst (ns.map .int))) := fr'.trans Fr.setN
        generalize M3.set n (.lst (ns.map .int)) = M4 at S2 hn2 fr2
        have hx : 0 ≤ (if x < 0 then -x else x) := by split <;> omega
        generalize (if x < 0 then -x else x) = y at hx
        obtain ⟨M5, e5, S5, f5, g5⟩ := S2.p3 ((st * 8191 + y + 3) % 2147483647)
        refine ok_seq ?_
        have lg : st.natAbs.log2 + (8191 : Int).natAbs.log2 < 1000000 := by
          have a : st.natAbs.log2 < 31 := log2_lt (by omega) (by decide)
          have b : (8191 : Int).natAbs.log2 < 13 := log2_lt (by decide) (by decide)
          omega
        have E2 : asgC (bin2 opMod (argsC intA (consA (bin2 opAdd (bin2 opAdd (bin2 opMul (bin2 opIx (varC 0) (conC (.int 3))) (conC (.int 8191))) (varC 2)) (conC (.int 3))) nilA)) (conC (.int 2147483647))) (subG (varC 0) (conC (.int 3)))
            [some (.val (.ref s)), some (.val (.int m)), some (.val (.int y)), none, none] M4 = .nx [some (.val (.ref s)), some (.val (.int m)), some (.val (.int y)), none, none] M5 := by
          have mm : opMul (.int st) (.int 8191) M4 = .ok (.int (st * 8191)) M4 := by
            show (if _ then _ else _) = _
            rw [if_pos lg]
          simp [asgC, bin2, argsC, consA, nilA, varC, conC, S2.i3, mm, opAdd, intA, opMod, subG, thenS, onlyG, e5]
        rw [E2]
        obtain ⟨y2, hy2⟩ : ∃ y2 : Int, y2 = (if (10 : Int) ^ 18 ≤ y then y else 0) := ⟨_, rfl⟩
        have hy3 : 0 ≤ y2 := by rw [hy2]; split <;> omega
        obtain ⟨M6, e6, S6, f6, g6⟩ := S5.p1 y2
        have E3 : asgC (ifC (cmpT opGe (varC 2) (bin2 opPow (conC (.int 10)) (conC (.int 18)))) (varC 2) (conC (.int 0))) (subG (varC 0) (conC (.int 1)))
            [some (.val (.ref s)), some (.val (.int m)), some (.val (.int y)), none, none] M5 = .nx [some (.val (.ref s)), some (.val (.int m)), some (.val (.int y)), none, none] M6 := by
          have pw : opPow (.int 10) (.int 18) M5 = .ok (.int (10 ^ 18)) M5 := by
            unfold opPow
            exact if_pos (by decide)
          have cc : ifC (cmpT opGe (varC 2) (bin2 opPow (conC (.int 10)) (conC (.int 18)))) (varC 2) (conC (.int 0)) [some (.val (.ref s)), some (.val (.int m)), some (.val (.int y)), none, none] M5 = .ok (.int y2) M5 := by
            rw [hy2]
            by_cases w : (10 : Int) ^ 18 ≤ y
            · simp only [ifC, cmpT, bin2, varC, conC, R.bind_ok, pw, opGe, tstA, List.getElem?_cons_succ, List.getElem?_cons_zero, decide_eq_true w, if_pos w, if_true]
            · simp only [ifC, cmpT, bin2, varC, conC, R.bind_ok, pw, opGe, tstA, List.getElem?_cons_succ, List.getElem?_cons_zero, decide_eq_false w, if_neg w, if_false, Bool.false_eq_true]
          show thenS (ifC _ _ _ _ M5) _ _ = _
          rw [cc]
          simp [subG, bin2, varC, conC, thenS, onlyG, e6]
        show OkS (asgC _ _ _ M5) _ _
        rw [E3]
        refine ⟨some (.val (.int y)), _, _, ns, rfl, S6, by rw [g6 n (Ne.symm ne), g5 n (Ne.symm ne)]; exact hn2, hy3, by omega, by omega, by simp at hl; omega, rfl, (fr2.trans f5).trans f6⟩
    · have T : andT (cmpT opEq (bin2 opIx (varC 0) (conC (.int 1))) (conC (.int 0))) (cmpT opNe (bin2 opIx (varC 0) (conC (.int 0))) (argsC lstA nilA)) [some (.val (.ref s)), some (.val (.int m)), z, none, none] M2 = .ok false M2 := by
        have : (cur == 0) = false := by simpa using q
        simp [andT, cmpT, bin2, varC, conC, S.i1, opEq_int, tstA, this]
      rw [T]
      exact ⟨_, z, cur, st, ns, rfl, S, hn, hc0, hs0, hs1, hl, rfl, fr⟩
  case after =>
    rintro vs M2 ⟨k, z, cur, st, ns, rfl, S, hn, hc0, hs0, hs1, hl, rfl, fr⟩
    refine ok_seq ?_
    have m0 : 0 ≤ cur % m ∧ cur % m < m := ⟨Int.emod_nonneg _ (by omega), Int.emod_lt_of_pos _ hm⟩
    by_cases q : 0 < cur
    · obtain ⟨M3, e3, S3, f3, g3⟩ := S.p1 (cur / m)
      have dv : opDiv (.int cur) (.int m) M2 = .ok (.int (cur / m)) M2 := by
        show (if _ then _ else _) = _
        rw [if_pos ⟨hm, Nat.lt_trans (log2_lt (k := 60) (by omega) (by decide)) (by decide)⟩]
      refine ok_if ?_
      have T : cmpT opGt (bin2 opIx (varC 0) (conC (.int 1))) (conC (.int 0)) [some (.val (.ref s)), some (.val (.int m)), z, none, none] M2 = .ok true M2 := by
        simp [cmpT, bin2, varC, conC, S.i1, opGt, tstA, q]
      rw [T]
      show OkS (seqC _ _ _ M2) _ _
      have E1 : seqC (asgC (bin2 opMod (argsC intA (consA (bin2 opIx (varC 0) (conC (.int 1))) nilA)) (varC 1)) (nameG 3)) (seqC (asgC (bin2 opDiv (bin2 opIx (varC 0) (conC (.int 1))) (varC 1)) (subG (varC 0) (conC (.int 1)))) (retC (varC 3)))
          [some (.val (.ref s)), some (.val (.int m)), z, none, none] M2 = .rt (.int (cur % m)) M3 := by
        simp [seqC, asgC, bin2, argsC, consA, nilA, varC, conC, S.i1, intA, opMod, hm, nameG, onlyG, dv, subG, thenS, e3, retC]
      rw [E1]
      exact ⟨_, rfl, m0.1, m0.2, ⟨ne, _, _, _, ns, S3, by rw [g3 n (Ne.symm ne)]; exact hn, Int.ediv_nonneg hc0 (by omega), by omega, by omega, hs0, hs1, hl⟩, fr.trans f3⟩
    · refine ok_if ?_
      have T : cmpT opGt (bin2 opIx (varC 0) (conC (.int 1))) (conC (.int 0)) [some (.val (.ref s)), some (.val (.int m)), z, none, none] M2 = .ok false M2 := by
        simp [cmpT, bin2, varC, conC, S.i1, opGt, tstA, q]
      rw [T]
      show OkS (seqC _ _ _ M2) _ _
      have mul1 : opMul (.int 7919) (.int (cnt + 1)) M2 = .ok (.int (7919 * (cnt + 1))) M2 := by
        show (if _ then _ else _) = _
        have a : (cnt + 1).natAbs.log2 < 60 := log2_lt (by omega) (by decide)
        have b : (7919 : Int).natAbs.log2 < 13 := log2_lt (by decide) (by decide)
        rw [if_pos (by omega)]
      have mul2 : opMul (.int 30011) (.int (cnt + 1)) M2 = .ok (.int (30011 * (cnt + 1))) M2 := by
        show (if _ then _ else _) = _
        have a : (cnt + 1).natAbs.log2 < 60 := log2_lt (by omega) (by decide)
        have b : (30011 : Int).natAbs.log2 < 15 := log2_lt (by decide) (by decide)
        rw [if_pos (by omega)]
      have p1 : opPow (.int (st + 7919 * (cnt + 1) + 104729)) (.int 5) M2 = .ok (.int ((st + 7919 * (cnt + 1) + 104729) ^ 5)) M2 := by
        show (if _ then _ else _) = _
        rw [if_pos ⟨by decide, by decide, by omega⟩]; rfl
      have mx0 : 0 ≤ (st + 7919 * (cnt + 1) + 104729) ^ 5 % 2147483629 := Int.emod_nonneg _ (by decide)
      have mx1 : (st + 7919 * (cnt + 1) + 104729) ^ 5 % 2147483629 < 2147483629 := Int.emod_lt_of_pos _ (by decide)
      have E1 : asgC (bin2 opMod (argsC intA (consA (bin2 opPow (bin2 opAdd (bin2 opAdd (bin2 opIx (varC 0) (conC (.int 3))) (bin2 opMul (conC (.int 7919)) (bin2 opIx (varC 0) (conC (.int 2))))) (conC (.int 104729))) (conC (.int 5))) nilA)) (conC (.int 2147483629))) (nameG 4)
          [some (.val (.ref s)), some (.val (.int m)), z, none, none] M2 = .nx [some (.val (.ref s)), some (.val (.int m)), z, none, some (.val (.int ((st + 7919 * (cnt + 1) + 104729) ^ 5 % 2147483629)))] M2 := by
        simp only [asgC, bin2, argsC, consA, nilA, varC, conC, List.getElem?_cons_zero, R.bind_ok, S.i3, S.i2, mul1, opAdd, p1, intA, opMod, if_pos (show (0 : Int) < 2147483629 by decide), nameG, onlyG, thenS_ok]
        rfl
      refine ok_seq ?_
      rw [E1]
      generalize (st + 7919 * (cnt + 1) + 104729) ^ 5 % 2147483629 = mx at mx0 mx1
      have mul3 : opMul (.int mx) (.int 48271) M2 = .ok (.int (mx * 48271)) M2 := by
        show (if _ then _ else _) = _
        have a : mx.natAbs.log2 < 31 := log2_lt (by omega) (by decide)
        have b : (48271 : Int).natAbs.log2 < 16 := log2_lt (by decide) (by decide)
        rw [if_pos (by omega)]
      have p2 : opPow (.int (mx * 48271 + 30011 * (cnt + 1) + 29)) (.int 3) M2 = .ok (.int ((mx * 48271 + 30011 * (cnt + 1) + 29) ^ 3)) M2 := by
        show (if _ then _ else _) = _
        rw [if_pos ⟨by decide, by decide, by omega⟩]; rfl
      refine ok_ret ?_
      have E2 : (bin2 opMod (bin2 opMod (argsC intA (consA (bin2 opPow (bin2 opAdd (bin2 opAdd (bin2 opMul (varC 4) (conC (.int 48271))) (bin2 opMul (conC (.int 30011)) (bin2 opIx (varC 0) (conC (.int 2))))) (conC (.int 29))) (conC (.int 3))) nilA)) (conC (.int 1000000007))) (varC 1))
          [some (.val (.ref s)), some (.val (.int m)), z, none, some (.val (.int mx))] M2 = .ok (.int ((mx * 48271 + 30011 * (cnt + 1) + 29) ^ 3 % 1000000007 % m)) M2 := by
        simp only [bin2, argsC, consA, nilA, varC, conC, List.getElem?_cons_zero, List.getElem?_cons_succ, R.bind_ok, S.i2, mul3, mul2, opAdd, p2, intA, opMod, if_pos (show (0 : Int) < 1000000007 by decide), if_pos hm]
      rw [E2]
      exact ⟨_, rfl, Int.emod_nonneg _ (by omega), Int.emod_lt_of_pos _ hm, ⟨ne, _, _, _, ns, S, hn, hc0, by omega, by omega, hs0, hs1, hl⟩, fr⟩
end AP
end

section
set_option Elab.async false
set_option linter.all false
set_option autoImplicit false
set_option maxRecDepth 100000
set_option maxHeartbeats 4000000
/-! AP 4: pick, mixed. -/
namespace AP
open PySem AM L2

theorem Fr.fresh {s n : Nat} {M M1 : AH} {i : Nat} {o : AO} (a : Fr s n M M1) (h : M.length ≤ i) : Fr s n M (M1.set i o) :=
  ⟨by simpa using a.len, fun j o' h1 h2 e => by rw [set_ne (by have := get_lt e; omega)]; exact a.get j o' h1 h2 e⟩
/-- a's items stand, whatever is drawn -/
def Its (s n : Nat) (a : AV) (xs : List AV) (M : AH) : Prop := a = .tup xs ∨ ∃ i, a = .ref i ∧ i ≠ s ∧ i ≠ n ∧ M[i]? = some (.lst xs)
theorem Its.fr {s n : Nat} {a : AV} {xs : List AV} {M M' : AH} (h : Its s n a xs M) (f : Fr s n M M') : Its s n a xs M' := h.imp id fun ⟨i, e, h1, h2, g⟩ => ⟨i, e, h1, h2, f.get _ _ h1 h2 g⟩
theorem Its.seq {s n : Nat} {a : AV} {xs : List AV} {M : AH} (h : Its s n a xs M) : seqA a M = some xs := by
  rcases h with rfl | ⟨i, rfl, h1, h2, g⟩
  · rfl
  · simp [seqA, g]
theorem Its.ix {s n : Nat} {a : AV} {xs : List AV} {M : AH} (h : Its s n a xs M) {i : Int} {x : AV} (e : atI xs i = some x) : opIx a (.int i) M = .ok x M := by
  rcases h with rfl | ⟨j, rfl, h1, h2, g⟩
  · exact ix_tup e
  · exact ix_at g e
theorem atI_pos {xs : List AV} {i : Int} (h0 : 0 ≤ i) (h1 : i < xs.length) : ∃ x, atI xs i = some x ∧ x ∈ xs ∧ xs[i.toNat]? = some x := by
  have hl : i.toNat < xs.length := by omega
  refine ⟨xs[i.toNat], ?_, List.getElem_mem _, List.getElem?_eq_getElem hl⟩
  unfold atI ixN
  rw [if_pos h0, if_pos h1]
  exact List.getElem?_eq_getElem hl
theorem Its.len {s n : Nat} {a : AV} {xs : List AV} {M : AH} (h : Its s n a xs M) (hl : xs.length ≤ sizeLine) : lenA [a] M = .ok (.int xs.length) M := by
  rcases h with rfl | ⟨j, rfl, h1, h2, g⟩
  · simp [lenA, hl, seqA]
  · simp [lenA, hl, seqA, g]
theorem range_ok {k : Nat} {M : AH} (h : k < 2 ^ 60) : rangeA1 [.int k] M = .ok ⟨rangeV 0 k, []⟩ M := by
  have b : -(2 ^ 62) ≤ (k : Int) ∧ (k : Int) < 2 ^ 62 := by omega
  unfold rangeA1
  exact if_pos b
theorem pop_ok {i : Nat} {d : Int} {xs : List AV} {y : AV} {M : AH} (h : M[i]? = some (.lst xs)) (d0 : 0 ≤ d) (d1 : d < xs.length) (hl : xs.length < 2 ^ 60) (e : xs[d.toNat]? = some y) : mPop1 (.ref i) [.int d] M = .ok y (M.set i (.lst (xs.eraseIdx d.toNat))) := by
  have b : -(2 ^ 63) ≤ d ∧ d < 2 ^ 63 := by omega
  have x : ixN xs.length d = some d.toNat := by unfold ixN; rw [if_pos d0, if_pos d1]
  unfold mPop1
  simp only [h, x, e]
  exact if_pos b
theorem append_ok {i : Nat} {xs : List AV} {y : AV} {M : AH} (h : M[i]? = some (.lst xs)) (hl : xs.length < sizeLine) : mAppend (.ref i) [y] M = .ok .non (M.set i (.lst (xs ++ [y]))) := by
  unfold mAppend
  simp only [h]
  exact if_pos hl
theorem size_lt {k : Nat} (h : k ≤ sizeLine) : k < 2 ^ 60 := Nat.lt_of_le_of_lt h (by unfold sizeLine; decide)
def c_pick : CS := (retC (bin2 opIx (varC 1) (callC 2 f_draw (consA (varC 0) (consA (argsC lenA (consA (varC 1) nilA)) nilA)))))
def f_pick : List SV → AH → R AV := fnRun 2 c_pick
theorem pick_ok {s n c : Nat} {a : AV} {xs : List AV} {M : AH} (h : Strm s n c M) (hc : c < 2 ^ 40) (I : Its s n a xs M) (hx : xs ≠ []) (hl : xs.length ≤ sizeLine) :
    OkR (f_pick [.val (.ref s), .val a] M) fun v M' => v ∈ xs ∧ Strm s n (c + 1) M' ∧ Fr s n M M' := by
  refine ok_fn (ok_ret ?_)
  have hp : 0 < xs.length := List.length_pos_iff.mpr hx
  have z := draw_ok (m := xs.length) h hc (by omega) (by have := size_lt hl; omega)
  have E : bin2 opIx (varC 1) (callC 2 f_draw (consA (varC 0) (consA (argsC lenA (consA (varC 1) nilA)) nilA))) (startL 2 [.val (.ref s), .val a]) M = (f_draw [.val (.ref s), .val (.int xs.length)] M).bind fun b M2 => opIx a b M2 := by
    simp [bin2, varC, startL, callC, consA, nilA, argsC, I.len hl]
  rw [E]
  refine OkR.bind (z.imp ?_)
  rintro v M' ⟨d, rfl, d0, d1, hs, fr⟩
  obtain ⟨x, e, hx, _⟩ := atI_pos d0 d1
  rw [(I.fr fr).ix e]
  exact ⟨hx, hs, fr⟩
def c_mixed : CS := (seqC (parC 2 3 (consA (argsC listA (consA (varC 1) nilA)) (consA (argsC lstA nilA) nilA)))
  (seqC (forC (argsI rangeA1 (consA (argsC lenA (consA (varC 2) nilA)) nilA)) (nameG 4)
  (dropC (methK (onT "list" mAppend) (varC 3) (consA (methK (onT "list" mPop1) (varC 2) (consA (callC 2 f_draw (consA (varC 0) (consA (argsC lenA (consA (varC 2) nilA)) nilA))) nilA)) nilA))))
  (retC (varC 3))))
def f_mixed : List SV → AH → R AV := fnRun 5 c_mixed
/-- the loop's state -/
def MI (s n c k : Nat) (M0 : AH) (a : AV) (xs : List AV) (rest : List AV) (vs : AM.Loc) (M : AH) : Prop := ∃ (z : Option SV) (ls fs : List AV), vs = [some (.val (.ref s)), some (.val a), some (.val (.ref M0.length)), some (.val (.ref (M0.length + 1))), z] ∧
  M[M0.length]? = some (.lst ls) ∧ M[M0.length + 1]? = some (.lst fs) ∧ ls.length = rest.length ∧ (ls ++ fs).Perm xs ∧ Strm s n (c + fs.length) M ∧ Fr s n M0 M
theorem cons_erase : ∀ {ls : List AV} {i : Nat} {x : AV} (hi : i < ls.length), ls[i] = x → (x :: ls.eraseIdx i).Perm ls
  | a :: ls, 0, x, hi, e => by cases e; exact List.Perm.refl _
  | a :: ls, i + 1, x, hi, e => (List.Perm.swap a x (ls.eraseIdx i)).trans ((cons_erase (ls := ls) (i := i) (by simpa using hi) e).cons a)
theorem perm_step {ls fs xs : List AV} {i : Nat} {x : AV} (e : ls[i]? = some x) (p : (ls ++ fs).Perm xs) : (ls.eraseIdx i ++ (fs ++ [x])).Perm xs := by
  refine List.Perm.trans ?_ p
  obtain ⟨hi, e⟩ := List.getElem?_eq_some_iff.mp e
  have q : (x :: ls.eraseIdx i).Perm ls := by
    exact cons_erase hi e
  have h1 : (ls.eraseIdx i ++ (fs ++ [x])).Perm (x :: (ls.eraseIdx i ++ fs)) := by
    rw [← List.append_assoc]
    exact List.perm_append_singleton x _
  exact h1.trans (q.append_right fs)
theorem range_len {i : Nat} {xs : List AV} {vs : AM.Loc} {M : AH} {j : Nat} (hv : vs[j]? = some (some (.val (.ref i)))) (h : M[i]? = some (.lst xs)) (hl : xs.length < 2 ^ 60) : argsI rangeA1 (consA (argsC lenA (consA (varC j) nilA)) nilA) vs M = .ok ⟨rangeV 0 xs.length, []⟩ M := by
  have v : varC j vs M = .ok (.ref i) M := by unfold varC; rw [hv]
  have l : lenA [.ref i] M = .ok (.int xs.length) M := by simp only [lenA, h]
  have a : consA (argsC lenA (consA (varC j) nilA)) nilA vs M = .ok [.int xs.length] M := by
    simp only [consA, argsC, nilA, v, R.bind_ok, l]
  unfold argsI
  rw [a, R.bind_ok]
  exact range_ok hl
theorem mixed_ok {s n c : Nat} {a : AV} {xs : List AV} {M : AH} (h : Strm s n c M) (hc : c + xs.length < 2 ^ 40) (I : Its s n a xs M) (hl : xs.length < sizeLine) :
    OkR (f_mixed [.val (.ref s), .val a] M) fun v M' => ∃ f ys, v = .ref f ∧ M.length ≤ f ∧ M'[f]? = some (.lst ys) ∧ ys.Perm xs ∧ Strm s n (c + xs.length) M' ∧ Fr s n M M' := by
  have hs : s < M.length := by obtain ⟨_, cur, cnt, st, ns, h1, _⟩ := h; exact get_lt h1
  have hn : n < M.length := by obtain ⟨_, cur, cnt, st, ns, h1, h2, _⟩ := h; exact get_lt h2
  refine ok_fn (ok_seq ?_)
  have E : parC 2 3 (consA (argsC listA (consA (varC 1) nilA)) (consA (argsC lstA nilA) nilA)) (startL 5 [.val (.ref s), .val a]) M =
      .nx [some (.val (.ref s)), some (.val a), some (.val (.ref M.length)), some (.val (.ref (M.length + 1))), none] (M ++ [.lst xs] ++ [.lst []]) := by
    simp [parC, consA, argsC, varC, startL, nilA, listA, I.seq, newL, Nat.le_of_lt hl, lstA]
  rw [E]
  show OkS (seqC _ _ _ (M ++ [.lst xs] ++ [.lst []])) _ _
  refine ok_seq ?_
  have e1 : (M ++ [.lst xs] ++ [.lst []])[M.length]? = some (.lst xs) := app_get (by simp)
  have e2 : (M ++ [.lst xs] ++ [.lst []])[M.length + 1]? = some (.lst []) := by simp
  have st : Strm s n (c + ([] : List AV).length) (M ++ [.lst xs] ++ [.lst []]) := h.app.app
  have fr : Fr s n M (M ++ [.lst xs] ++ [.lst []]) := Fr.app.trans Fr.app
  generalize (M ++ [.lst xs] ++ [.lst []]) = M1 at e1 e2 st fr
  have E2 : argsI rangeA1 (consA (argsC lenA (consA (varC 2) nilA)) nilA) [some (.val (.ref s)), some (.val a), some (.val (.ref M.length)), some (.val (.ref (M.length + 1))), none] M1 = .ok ⟨rangeV 0 xs.length, []⟩ M1 := range_len rfl e1 (size_lt (Nat.le_of_lt hl))
  unfold forC
  rw [E2]
  show OkS (loopC _ _ _ (rangeV 0 xs.length) _ M1) _ _
  refine OkS.imp (ok_loop (N := fun vs M2 => MI s n c 0 M a xs [] vs M2) (T := fun _ _ => False) (fun rest vs M2 => MI s n c 0 M a xs rest vs M2) (fun _ _ _ _ => rfl) ?step (fun _ _ z => z) _ _ _ ⟨none, xs, [], rfl, e1, e2, by simp [rangeV], by simp, st, fr⟩) ?after fun _ _ z => z.elim
  case step =>
    rintro x rest vs M2 ⟨z, ls, fs, rfl, g1, g2, hlen, hp, hs2, fr2⟩
    refine ok_turn (ok_drop ?_)
    have hpl : ls.length + fs.length = xs.length := by simpa using hp.length_eq
    have hl0 : 0 < ls.length := by rw [hlen]; simp
    have zz := draw_ok (m := ls.length) hs2 (by omega) (by omega) (by have := size_lt (Nat.le_of_lt hl); omega)
    have k3 : kindA (.ref (M.length + 1)) M2 = "list" := by simp [kindA, g2]
    have k2 : kindA (.ref M.length) M2 = "list" := by simp [kindA, g1]
    have E3 : methK (onT "list" mAppend) (varC 3) (consA (methK (onT "list" mPop1) (varC 2) (consA (callC 2 f_draw (consA (varC 0) (consA (argsC lenA (consA (varC 2) nilA)) nilA))) nilA)) nilA) ([some (.val (.ref s)), some (.val a), some (.val (.ref M.length)), some (.val (.ref (M.length + 1))), z].set 4 (some (.val x))) M2 =
        (f_draw [.val (.ref s), .val (.int ls.length)] M2).bind fun b M3 => (mPop1 (.ref M.length) [b] M3).bind fun y M4 => mAppend (.ref (M.length + 1)) [y] M4 := by
      have hle : ls.length ≤ sizeLine := by omega
      simp [methK, varC, k3, k2, onT, consA, callC, argsC, nilA, lenA, seqA, g1, hle]
      cases f_draw [.val (.ref s), .val (.int ls.length)] M2 with
      | ok b M3 => simp; cases mPop1 (.ref M.length) [b] M3 <;> simp
      | exc c fs M3 => simp
      | bad => simp
    rw [E3]
    refine OkR.bind (zz.imp ?_)
    rintro v M3 ⟨d, rfl, d0, d1, hs3, fr3⟩
    obtain ⟨y, _, _, ey⟩ := atI_pos d0 d1
    have g1' := fr3.get _ _ (by omega) (by omega) g1
    have g2' := fr3.get _ _ (by omega) (by omega) g2
    have pp := pop_ok g1' d0 d1 (size_lt (by omega)) ey
    rw [pp]
    have ga : (M3.set M.length (.lst (ls.eraseIdx d.toNat)))[M.length + 1]? = some (.lst fs) := by rw [set_ne (by omega)]; exact g2'
    have aa := append_ok (y := y) ga (by omega)
    rw [R.bind_ok, aa]
    refine ⟨some (.val x), ls.eraseIdx d.toNat, fs ++ [y], rfl, ?_, set_get ga, ?_, perm_step ey hp, ?_, (fr2.trans fr3).fresh (by omega) |>.fresh (by omega)⟩
    · rw [set_ne (by omega)]; exact set_get g1'
    · rw [List.length_eraseIdx]
      have : d.toNat < ls.length := by omega
      rw [if_pos this]
      simp at hlen
      omega
    · have := (hs3.set (i := M.length) (o := .lst (ls.eraseIdx d.toNat)) (by omega) (by omega)).set (i := M.length + 1) (o := .lst (fs ++ [y])) (by omega) (by omega)
      simpa [Nat.add_assoc] using this
  case after =>
    rintro vs M2 ⟨z, ls, fs, rfl, g1, g2, hlen, hp, hs2, fr2⟩
    have : ls = [] := List.eq_nil_of_length_eq_zero (by simpa using hlen)
    subst this
    refine ok_ret ?_
    have e : fs.length = xs.length := by simpa using hp.length_eq
    exact ⟨M.length + 1, fs, rfl, by omega, g2, by simpa using hp, by rw [← e]; exact hs2, fr2⟩
end AP
end

section
set_option Elab.async false
set_option linter.all false
set_option autoImplicit false
set_option maxRecDepth 100000
set_option maxHeartbeats 4000000
/-! AP 5: posts of expressions, by their parts. -/
namespace AP
open PySem AM L2
section
variable {vs : AM.Loc} {M : AH}
theorem ok_var {i : Nat} {a : AV} {Q : AV → AH → Prop} (hv : vs[i]? = some (some (.val a))) (h : Q a M) : OkR (varC i vs M) Q := by
  unfold varC; rw [hv]; exact h
theorem ok_con {a : AV} {Q : AV → AH → Prop} (h : Q a M) : OkR (conC a vs M) Q := h
theorem ok_nil {Q : List AV → AH → Prop} (h : Q [] M) : OkR (nilA vs M) Q := h
theorem ok_cons {c : CE} {r : CA} {Q : List AV → AH → Prop} (h : OkR (c vs M) fun a M1 => OkR (r vs M1) fun as M2 => Q (a :: as) M2) : OkR (consA c r vs M) Q :=
  OkR.bind (h.imp fun _ _ z => OkR.bind z)
theorem ok_args {op : List AV → AH → R AV} {r : CA} {Q : AV → AH → Prop} (h : OkR (r vs M) fun as M1 => OkR (op as M1) Q) : OkR (argsC op r vs M) Q := OkR.bind h
theorem ok_bin {op : AV → AV → AH → R AV} {a b : CE} {Q : AV → AH → Prop} (h : OkR (a vs M) fun x M1 => OkR (b vs M1) fun y M2 => OkR (op x y M2) Q) : OkR (bin2 op a b vs M) Q :=
  OkR.bind (h.imp fun _ _ z => OkR.bind z)
theorem ok_call {n : Nat} {F : List SV → AH → R AV} {r : CA} {Q : AV → AH → Prop} (h : OkR (r vs M) fun as M1 => as.length = n ∧ OkR (F (as.map .val) M1) Q) : OkR (callC n F r vs M) Q :=
  OkR.bind (h.imp fun _ _ ⟨e, z⟩ => by rw [if_pos e]; exact z)
theorem ok_tup {as : List AV} {Q : AV → AH → Prop} (hl : as.length ≤ 1000) (h : Q (.tup as) M) : OkR (tupA as M) Q := by
  unfold tupA; rw [if_pos (Nat.le_trans hl (by unfold sizeLine; decide))]; exact h
end
end AP
end

section
set_option Elab.async false
set_option linter.all false
set_option autoImplicit false
set_option maxRecDepth 100000
set_option maxHeartbeats 4000000
/-! AP 6: posts of tests. -/
namespace AP
open PySem AM L2
section
variable {vs : AM.Loc} {M : AH} {N : AM.Loc → AH → Prop} {T : AV → AH → Prop}
theorem ok_ifC {t : CT} {a b : CE} {Q : AV → AH → Prop} (h : OkR (t vs M) fun k M1 => OkR (if k = true then a vs M1 else b vs M1) Q) : OkR (ifC t a b vs M) Q := OkR.bind h
theorem ok_tru {c : CE} {Q : Bool → AH → Prop} (h : OkR (c vs M) fun a M1 => OkR (truA a M1) Q) : OkR (truC c vs M) Q := OkR.bind h
theorem ok_notT {t : CT} {Q : Bool → AH → Prop} (h : OkR (t vs M) fun k M1 => Q (!k) M1) : OkR (notT t vs M) Q := OkR.bind (h.imp fun _ _ z => z)
theorem ok_orT {a b : CT} {Q : Bool → AH → Prop} (h : OkR (a vs M) fun k M1 => if k = true then Q true M1 else OkR (b vs M1) Q) : OkR (orT a b vs M) Q :=
  OkR.bind (h.imp fun k M1 z => by cases k with
    | true => exact z
    | false => exact z)
theorem ok_andT {a b : CT} {Q : Bool → AH → Prop} (h : OkR (a vs M) fun k M1 => if k = true then OkR (b vs M1) Q else Q false M1) : OkR (andT a b vs M) Q :=
  OkR.bind (h.imp fun k M1 z => by cases k with
    | true => exact z
    | false => exact z)
theorem ok_cmp {op : AV → AV → AH → R AV} {a b : CE} {Q : Bool → AH → Prop} (h : OkR (a vs M) fun x M1 => OkR (b vs M1) fun y M2 => OkR (op x y M2) fun r M3 => ∃ k, r = .bl k ∧ Q k M3) : OkR (cmpT op a b vs M) Q :=
  OkR.bind (h.imp fun _ _ z => OkR.bind (z.imp fun _ _ z => OkR.bind (z.imp fun _ _ ⟨k, e, q⟩ => by rw [e]; exact q)))
theorem ok_andC {a b : CE} {Q : AV → AH → Prop} (h : OkR (a vs M) fun x M1 => ∃ k, x = .bl k ∧ if k = true then OkR (b vs M1) Q else Q (.bl false) M1) : OkR (andC a b vs M) Q :=
  OkR.bind (h.imp fun x M1 ⟨k, e, z⟩ => by
    subst e
    cases k with
    | true => exact z
    | false => exact z)
theorem ok_notC {a : CE} {Q : AV → AH → Prop} (h : OkR (a vs M) fun x M1 => ∃ k, x = .bl k ∧ Q (.bl (!k)) M1) : OkR (notC a vs M) Q :=
  OkR.bind (h.imp fun x M1 ⟨k, e, z⟩ => by subst e; exact z)
/-- a, b = x, y -/
theorem ok_par {i j : Nat} {r : CA} (h : OkR (r vs M) fun as M1 => ∃ a b, as = [a, b] ∧ N ((vs.set i (some (.val a))).set j (some (.val b))) M1) : OkS (parC i j r vs M) N T :=
  ok_then (h.imp fun as M1 ⟨a, b, e, z⟩ => by subst e; exact z)
theorem ok_asg {c : CE} {g : CG} (h : OkR (c vs M) fun a M1 => OkS (g a vs M1) N fun _ _ => False) : OkS (asgC c g vs M) N T :=
  ok_then (h.imp fun a M1 z => by
    cases e : g a vs M1 <;> rw [e] at z <;> first | exact z | exact z.elim)
theorem ok_sub {co ci : CE} {a : AV} (h : OkR (co vs M) fun o M1 => OkR (ci vs M1) fun i M2 => OkR (setA o i a M2) fun _ M3 => N vs M3) : OkS (subG co ci a vs M) N T :=
  ok_then (OkR.bind (h.imp fun _ _ z => OkR.bind z))
theorem ok_for {ci : CI} {g : CG} {b : CS} (h : OkR (ci vs M) fun it M1 => OkS (loopC it g b it.items vs M1) N T) : OkS (forC ci g b vs M) N T := ok_then h
end
end AP
end

section
set_option Elab.async false
set_option linter.all false
set_option autoImplicit false
set_option maxRecDepth 100000
set_option maxHeartbeats 4000000
/-! AP 7: list comprehensions. -/
namespace AP
open PySem AM L2
section
variable {vs : AM.Loc} {it : IT} {d : Nat} {own : List Nat} {g : CG} {t : CT} {ce : CE}
/-- P: what is done, what is left, the heap -/
theorem ok_lcL (P : List AV → List AV → AH → Prop) {Q : AV → AH → Prop} (hok : ∀ acc xs M, P acc xs M → it.ok M = true)
    (hs : ∀ acc x xs M, P acc (x :: xs) M → ∃ vs1, g x (wipeL vs own) M = .nx vs1 M ∧ OkR (t vs1 M) fun b M2 => if b = true then OkR (ce vs1 M2) fun y M3 => acc.length < sizeLine ∧ M3[d]? = some (.lst acc) ∧ P (acc ++ [y]) xs (M3.set d (.lst (acc ++ [y]))) else P acc xs M2)
    (he : ∀ acc M, P acc [] M → Q (.ref d) M) : ∀ (xs acc : List AV) (M : AH), P acc xs M → OkR (lcL it d own g t ce vs xs M) Q
  | [], acc, M, h => by
    unfold lcL
    rw [if_pos (hok _ _ _ h)]
    exact he _ _ h
  | x :: xs, acc, M, h => by
    unfold lcL
    rw [if_pos (hok _ _ _ h)]
    obtain ⟨vs1, e, z⟩ := hs _ _ _ _ h
    unfold runG
    rw [e]
    obtain ⟨b, M2, e2, z⟩ := z.eq
    show OkR (thenR (t vs1 M) _) Q
    rw [e2]
    cases b with
    | false => exact ok_lcL P hok hs he xs acc M2 z
    | true =>
      obtain ⟨y, M3, e3, hl, hd, z⟩ := OkR.eq z
      show OkR (thenR (ce vs1 M2) _) Q
      rw [e3]
      show OkR (pushA d y M3 _) Q
      unfold pushA
      rw [hd]
      show OkR (if acc.length < sizeLine then _ else _) Q
      rw [if_pos hl]
      exact ok_lcL P hok hs he xs _ _ z
theorem ok_lc {ci : CI} {Q : AV → AH → Prop} {M : AH} (h : OkR (ci vs M) fun it M1 => OkR (lcL it M1.length own g t ce vs it.items (M1 ++ [.lst []])) Q) : OkR (lcC own ci g t ce vs M) Q := OkR.bind h
end
end AP
end

section
set_option Elab.async false
set_option linter.all false
set_option autoImplicit false
set_option maxRecDepth 100000
set_option maxHeartbeats 4000000
/-! AP 8: walking a list or a tuple that stands. -/
namespace AP
open PySem AM L2
/-- an iteration over xs that stands wherever a's items stand -/
structure Walk (s n : Nat) (a : AV) (xs : List AV) (it : IT) : Prop where
  items : it.items = xs
  ok : ∀ M, Its s n a xs M → it.ok M = true
theorem Its.walk {s n : Nat} {a : AV} {xs : List AV} {M : AH} (h : Its s n a xs M) : ∃ it, walkA a M = some it ∧ Walk s n a xs it := by
  rcases h with rfl | ⟨i, rfl, h1, h2, g⟩
  · exact ⟨⟨xs, []⟩, rfl, rfl, fun _ _ => rfl⟩
  · refine ⟨⟨xs, [(i, xs)]⟩, by simp [walkA, g], rfl, fun M' h' => ?_⟩
    rcases h' with e | ⟨j, e, _, _, g'⟩
    · cases e
    · cases e
      simp [IT.ok, isLst, g']
theorem Its.val {s n : Nat} {a : AV} {xs : List AV} {M : AH} {c : CE} {vs : AM.Loc} {Q : IT → AH → Prop} (h : Its s n a xs M) (hc : c vs M = .ok a M) (k : ∀ it, Walk s n a xs it → Q it M) : OkR (valI c vs M) Q := by
  obtain ⟨it, e, w⟩ := h.walk
  unfold valI
  rw [hc, R.bind_ok]
  unfold iterA
  rw [e]
  exact k it w
end AP
end

section
set_option Elab.async false
set_option linter.all false
set_option autoImplicit false
set_option maxRecDepth 100000
set_option maxHeartbeats 4000000
/-! AP 9: a heap that only grew; values that are like a value of tuples. -/
namespace AP
open PySem AM L2
/-- all stays -/
structure Grw (M M' : AH) : Prop where
  len : M.length ≤ M'.length
  get : ∀ (i : Nat) (o : AO), M[i]? = some o → M'[i]? = some o
theorem Grw.refl {M : AH} : Grw M M := ⟨Nat.le_refl _, fun _ _ h => h⟩
theorem Grw.trans {M M1 M2 : AH} (a : Grw M M1) (b : Grw M1 M2) : Grw M M2 := ⟨Nat.le_trans a.len b.len, fun i o h => b.get i o (a.get i o h)⟩
theorem Grw.app {M L : AH} : Grw M (M ++ L) := ⟨by simp, fun _ _ h => app_get h⟩
theorem Grw.fresh {M M1 : AH} {i : Nat} {o : AO} (a : Grw M M1) (h : M.length ≤ i) : Grw M (M1.set i o) :=
  ⟨by simpa using a.len, fun j o' e => by rw [set_ne (by have := get_lt e; omega)]; exact a.get j o' e⟩
theorem Grw.fr {s n : Nat} {M M' : AH} (a : Grw M M') : Fr s n M M' := ⟨a.len, fun i o _ _ h => a.get i o h⟩
theorem Fr.ext {s n : Nat} {M M' : AH} (a : Fr s n M M') (hs : M.length ≤ s) (hn : M.length ≤ n) : Grw M M' := ⟨a.len, fun i o h => a.get i o (by have := get_lt h; omega) (by have := get_lt h; omega) h⟩
theorem Strm.ext {s n c : Nat} {M M' : AH} (h : Strm s n c M) (e : Grw M M') : Strm s n c M' := by
  obtain ⟨ne, cur, cnt, st, ns, h1, h2, h3⟩ := h
  exact ⟨ne, cur, cnt, st, ns, e.get _ _ h1, e.get _ _ h2, h3⟩
theorem Its.ext {s n : Nat} {a : AV} {xs : List AV} {M M' : AH} (h : Its s n a xs M) (f : Grw M M') : Its s n a xs M' := h.fr f.fr
theorem Its.any {s n s' n' : Nat} {a : AV} {xs : List AV} {M : AH} (h : Its s n a xs M) (hs : M.length ≤ s') (hn : M.length ≤ n') : Its s' n' a xs M :=
  h.imp id fun ⟨i, e, _, _, g⟩ => ⟨i, e, by have := get_lt g; omega, by have := get_lt g; omega, g⟩
mutual
/-- v is like w, a value of ints and tuples; lists may stand for tuples -/
inductive Like (s n : Nat) (M : AH) : AV → AV → Prop
  | int (i : Int) : Like s n M (.int i) (.int i)
  | seq {v : AV} {vs ws : List AV} : Its s n v vs M → LikeL s n M vs ws → Like s n M v (.tup ws)
inductive LikeL (s n : Nat) (M : AH) : List AV → List AV → Prop
  | nil : LikeL s n M [] []
  | cons {v w : AV} {vs ws : List AV} : Like s n M v w → LikeL s n M vs ws → LikeL s n M (v :: vs) (w :: ws)
end
mutual
theorem Like.fr {s n : Nat} {M M' : AH} (f : Fr s n M M') : ∀ {v w : AV}, Like s n M v w → Like s n M' v w
  | _, _, .int i => .int i
  | _, _, .seq h t => .seq (h.fr f) (LikeL.fr f t)
theorem LikeL.fr {s n : Nat} {M M' : AH} (f : Fr s n M M') : ∀ {vs ws : List AV}, LikeL s n M vs ws → LikeL s n M' vs ws
  | _, _, .nil => .nil
  | _, _, .cons h t => .cons (Like.fr f h) (LikeL.fr f t)
end
end AP
end

section
set_option Elab.async false
set_option linter.all false
set_option autoImplicit false
set_option maxRecDepth 100000
set_option maxHeartbeats 4000000
/-! AP 10: rules as a tactic. -/
namespace AP
open PySem AM L2
theorem okv {α : Type} {r : R α} {a : α} {M : AH} {Q : α → AH → Prop} (e : r = .ok a M) (h : Q a M) : OkR r Q := by rw [e]; exact h
section
variable {vs : AM.Loc} {M : AH} {N : AM.Loc → AH → Prop} {T : AV → AH → Prop}
theorem andC_t {a b : CE} {Q : AV → AH → Prop} (h : OkR (a vs M) fun x M1 => x = .bl true ∧ OkR (b vs M1) Q) : OkR (andC a b vs M) Q :=
  ok_andC (h.imp fun x M1 ⟨e, q⟩ => ⟨true, e, q⟩)
theorem andC_f {a b : CE} {Q : AV → AH → Prop} (h : OkR (a vs M) fun x M1 => x = .bl false ∧ Q (.bl false) M1) : OkR (andC a b vs M) Q :=
  ok_andC (h.imp fun x M1 ⟨e, q⟩ => ⟨false, e, q⟩)
theorem orT_t {a b : CT} {Q : Bool → AH → Prop} (h : OkR (a vs M) fun k M1 => k = true ∧ Q true M1) : OkR (orT a b vs M) Q :=
  ok_orT (h.imp fun k M1 ⟨e, q⟩ => by subst e; exact q)
theorem orT_f {a b : CT} {Q : Bool → AH → Prop} (h : OkR (a vs M) fun k M1 => k = false ∧ OkR (b vs M1) Q) : OkR (orT a b vs M) Q :=
  ok_orT (h.imp fun k M1 ⟨e, q⟩ => by subst e; exact q)
theorem if_t {t : CT} {a b : CS} (h : OkR (t vs M) fun k M => k = true ∧ OkS (a vs M) N T) : OkS (ifS t a b vs M) N T :=
  ok_if (h.imp fun k M1 ⟨e, q⟩ => by subst e; exact q)
theorem if_f {t : CT} {a b : CS} (h : OkR (t vs M) fun k M => k = false ∧ OkS (b vs M) N T) : OkS (ifS t a b vs M) N T :=
  ok_if (h.imp fun k M1 ⟨e, q⟩ => by subst e; exact q)
theorem ok_skip (h : N vs M) : OkS (skipC vs M) N T := h
theorem ok_un {op : AV → AH → R AV} {a : CE} {Q : AV → AH → Prop} (h : OkR (a vs M) fun x M1 => OkR (op x M1) Q) : OkR (un1 op a vs M) Q := OkR.bind h
end
end AP
end

section
set_option Elab.async false
set_option linter.all false
set_option autoImplicit false
set_option maxRecDepth 100000
set_option maxHeartbeats 4000000
/-! AP 11: comprehensions item by item, slices, all. -/
namespace AP
open PySem AM L2
local macro_rules | `(tactic| and_intros) => `(tactic| repeat (first | (with_reducible first | refine ok_seq ?_ | refine ok_ret ?_ | refine ok_set ?_ | refine ok_drop ?_ | refine ok_con ?_ | refine ok_nil ?_ | refine ok_cons ?_ | refine ok_args ?_ | refine ok_bin ?_ | refine ok_un ?_ | refine ok_tru ?_ | refine ok_notT ?_ | refine ok_cmp ?_ | refine ok_par ?_ | refine ok_for ?_ | refine ok_skip ?_ | refine ok_notC ?_ | refine ok_ifC ?_ | refine ok_call ?_) | ((with_reducible apply ok_var); exact rfl)))
inductive All2 {α β : Type} (R : α → β → Prop) : List α → List β → Prop
  | nil : All2 R [] []
  | cons {x : α} {y : β} {xs : List α} {ys : List β} : R x y → All2 R xs ys → All2 R (x :: xs) (y :: ys)
theorem All2.length {α β : Type} {R : α → β → Prop} {xs : List α} {ys : List β} (h : All2 R xs ys) : xs.length = ys.length := by
  induction h with
  | nil => rfl
  | cons _ _ ih => simp [ih]
theorem All2.imp {α β : Type} {R S : α → β → Prop} {xs : List α} {ys : List β} (h : All2 R xs ys) (k : ∀ x y, R x y → S x y) : All2 S xs ys := by
  induction h with
  | nil => exact .nil
  | cons r _ ih => exact .cons (k _ _ r) ih
theorem All2.map {α β γ : Type} {R : α → β → Prop} {S : α → γ → Prop} {f : β → γ} {xs : List α} {ys : List β} (h : All2 R xs ys) (k : ∀ x y, R x y → S x (f y)) : All2 S xs (ys.map f) := by
  induction h with
  | nil => exact .nil
  | cons r _ ih => exact .cons (k _ _ r) ih
section
variable {vs : AM.Loc} {it : IT} {own : List Nat} {g : CG} {ce : CE}
/-- a comprehension without a test, item by item: g binds the item, ce tells the result, the heap grows alone -/
theorem ok_lcG {M : AH} {R : AV → AV → Prop} {fs : List AV} {Q : AV → AH → Prop} (hok : ∀ M', Grw M M' → it.ok M' = true) (h2 : All2 R it.items fs) (hl : fs.length < 1000000)
    (hs : ∀ x y M', R x y → Grw M M' → ∃ vs1, g x (wipeL vs own) M' = .nx vs1 M' ∧ OkR (ce vs1 M') fun r M2 => r = y ∧ Grw M' M2)
    (he : ∀ M', Grw M M' → M'[M.length]? = some (.lst fs) → Q (.ref M.length) M') : OkR (lcL it M.length own g yesT ce vs it.items (M ++ [.lst []])) Q := by
  refine ok_lcL (fun acc rest M2 => ∃ todo, fs = acc ++ todo ∧ All2 R rest todo ∧ M2[M.length]? = some (.lst acc) ∧ Grw M M2) (fun acc rest M2 ⟨_, _, _, _, fr⟩ => hok _ fr) ?_ ?_ it.items [] _ ⟨fs, rfl, h2, by simp, Grw.app⟩
  · rintro acc x rest M2 ⟨todo, e, h, hd, fr⟩
    cases h with
    | @cons _ y _ ys r t =>
      obtain ⟨vs1, e1, z⟩ := hs x y M2 r fr
      refine ⟨vs1, e1, z.imp ?_⟩
      rintro r' M3 ⟨rfl, g3⟩
      refine ⟨?_, g3.get _ _ hd, ys, by rw [e]; simp, t, set_get (g3.get _ _ hd), (fr.trans g3).fresh (Nat.le_refl _)⟩
      have : acc.length ≤ fs.length := by rw [e]; simp
      unfold sizeLine
      omega
  · rintro acc M2 ⟨todo, e, h, hd, fr⟩
    cases h
    rw [List.append_nil] at e
    exact he _ fr (by rw [e]; exact hd)
end
theorem blsOf_map : ∀ bs : List Bool, blsOf (bs.map .bl) = some bs
  | [] => rfl
  | b :: bs => by
    show (blsOf (bs.map .bl)).map (b :: ·) = _
    rw [blsOf_map bs]
    rfl
theorem all_bls {M : AH} {i : Nat} {bs : List Bool} (h : M[i]? = some (.lst (bs.map .bl))) : allA [.ref i] M = .ok (.bl (bs.all id)) M := by
  have : lstOf (.ref i) M = some (bs.map .bl) := by simp [lstOf, h]
  unfold allA
  simp only [this, Option.bind, blsOf_map]
theorem cut_from {xs : List AV} {k : Nat} : cutA xs (some (k : Int)) none = xs.drop k := by
  unfold cutA
  rw [HT.sIx_nat, HT.sIx_none]
  rw [List.take_of_length_le (by simp)]
  by_cases h : k ≤ xs.length
  · rw [Nat.min_eq_left h]
  · rw [Nat.min_eq_right (by omega), List.drop_of_length_le (by omega), List.drop_of_length_le (by omega)]
theorem cut_to {xs : List AV} {k : Nat} : cutA xs none (some (k : Int)) = xs.take k := by
  unfold cutA
  rw [HT.sIx_nat, HT.sIx_none]
  simp only [List.drop_zero, Nat.sub_zero]
  by_cases h : k ≤ xs.length
  · rw [Nat.min_eq_left h]
  · rw [Nat.min_eq_right (by omega), List.take_of_length_le (by omega), List.take_of_length_le (by omega)]
theorem sl_ok {s n : Nat} {a : AV} {xs : List AV} {M : AH} {lo hi : Option Int} (I : Its s n a xs M) (hs : s < M.length) (hn : n < M.length) (hl : (cutA xs lo hi).length < 1000000) : ∃ b M', opSl a lo hi M = .ok b M' ∧ Grw M M' ∧ Its s n b (cutA xs lo hi) M' ∧ isT a = isT b := by
  rcases I with rfl | ⟨i, rfl, h1, h2, g⟩
  · exact ⟨_, _, rfl, Grw.refl, .inl rfl, rfl⟩
  · refine ⟨.ref M.length, M ++ [.lst (cutA xs lo hi)], ?_, Grw.app, .inr ⟨_, rfl, by omega, by omega, by simp⟩, rfl⟩
    simp only [opSl, g, newL]
    rw [if_pos (by unfold sizeLine; omega)]
theorem walk_eq {s n : Nat} {a : AV} {xs : List AV} {M : AH} {it : IT} (h : walkA a M = some it) (w : Walk s n a xs it) : it = ⟨xs, it.guard⟩ := by
  obtain ⟨is, g⟩ := it
  have := w.items
  simp only at this
  rw [this]
theorem its_one {s n : Nat} {a : AV} {x : AV} {xs : List AV} {M : AH} (I : Its s n a (x :: xs) M) : opIx a (.int 0) M = .ok x M := I.ix (by simp [atI, ixN])
end AP
end

section
set_option Elab.async false
set_option linter.all false
set_option autoImplicit false
set_option maxRecDepth 100000
set_option maxHeartbeats 4000000
/-! AP 12: frames by a set; comprehensions with tests; lists of ints; last items; closures. -/
namespace AP
open PySem AM L2
/-- all but what X tells of stays -/
structure FrX (X : Nat → Prop) (M M' : AH) : Prop where
  len : M.length ≤ M'.length
  get : ∀ i o, ¬ X i → M[i]? = some o → M'[i]? = some o
theorem FrX.refl {X : Nat → Prop} {M : AH} : FrX X M M := ⟨Nat.le_refl _, fun _ _ _ h => h⟩
theorem FrX.trans {X : Nat → Prop} {M M1 M2 : AH} (a : FrX X M M1) (b : FrX X M1 M2) : FrX X M M2 := ⟨Nat.le_trans a.len b.len, fun i o h1 h => b.get i o h1 (a.get i o h1 h)⟩
theorem FrX.mono {X Y : Nat → Prop} {M M1 : AH} (a : FrX X M M1) (h : ∀ i, X i → Y i) : FrX Y M M1 := ⟨a.len, fun i o h1 h2 => a.get i o (fun z => h1 (h i z)) h2⟩
theorem Grw.frX {X : Nat → Prop} {M M1 : AH} (a : Grw M M1) : FrX X M M1 := ⟨a.len, fun i o _ h => a.get i o h⟩
theorem Fr.frX {s n : Nat} {M M1 : AH} (a : Fr s n M M1) : FrX (fun i => i = s ∨ i = n) M M1 := ⟨a.len, fun i o h1 h2 => a.get i o (fun z => h1 (.inl z)) (fun z => h1 (.inr z)) h2⟩
theorem FrX.set {X : Nat → Prop} {M : AH} {i : Nat} {o : AO} (h : X i) : FrX X M (M.set i o) := ⟨by simp, fun k o' hk hg => by rw [set_ne (fun e => hk (by rw [← e]; exact h))]; exact hg⟩
theorem FrX.app {X : Nat → Prop} {M L : AH} : FrX X M (M ++ L) := Grw.app.frX
theorem FrX.fresh {X : Nat → Prop} {M M1 : AH} {i : Nat} {o : AO} (a : FrX X M M1) (h : M.length ≤ i) : FrX X M (M1.set i o) :=
  ⟨by simpa using a.len, fun j o' hj e => by rw [set_ne (by have := get_lt e; omega)]; exact a.get j o' hj e⟩
/-! ### lists that stand -/
theorem it_ok {M : AH} {i : Nat} {xs ys : List AV} (h : M[i]? = some (.lst xs)) : (IT.mk ys [(i, xs)]).ok M = true := by
  simp [IT.ok, isLst, h]
theorem walk_lst {M : AH} {i : Nat} {xs : List AV} (h : M[i]? = some (.lst xs)) : walkA (.ref i) M = some ⟨xs, [(i, xs)]⟩ := by simp [walkA, h]
theorem val_lst {c : CE} {vs : AM.Loc} {M : AH} {i : Nat} {xs : List AV} {Q : IT → AH → Prop} (hc : c vs M = .ok (.ref i) M) (h : M[i]? = some (.lst xs)) (k : Q ⟨xs, [(i, xs)]⟩ M) : OkR (valI c vs M) Q := by
  unfold valI
  rw [hc, R.bind_ok]
  unfold iterA
  rw [walk_lst h]
  exact k
theorem var_eq {vs : AM.Loc} {M : AH} {i : Nat} {a : AV} (h : vs[i]? = some (some (.val a))) : varC i vs M = .ok a M := by unfold varC; rw [h]
theorem len_lst {M : AH} {i : Nat} {xs : List AV} (h : M[i]? = some (.lst xs)) : lenA [.ref i] M = .ok (.int xs.length) M := by simp [lenA, h]
theorem enum_lst {M : AH} {i : Nat} {xs : List AV} (h : M[i]? = some (.lst xs)) : enumA [.ref i] M = .ok ⟨enumFrom 0 xs, [(i, xs)]⟩ M := by simp [enumA, walk_lst h]
theorem new_lst {as : List AV} {M : AH} (h : as.length ≤ 1000) : lstA as M = .ok (.ref M.length) (M ++ [.lst as]) := by
  unfold lstA
  rw [if_pos (Nat.le_trans h (by unfold sizeLine; decide))]
theorem add_lst {i j : Nat} {xs ys : List AV} {M : AH} (h : M[i]? = some (.lst xs)) (g : M[j]? = some (.lst ys)) (hl : xs.length + ys.length ≤ 1000000) : opAdd (.ref i) (.ref j) M = .ok (.ref M.length) (M ++ [.lst (xs ++ ys)]) := by
  simp only [opAdd, h, g, newL]
  rw [if_pos (by simp; unfold sizeLine; omega)]
theorem atI_last {xs : List AV} {x : AV} (h : xs.getLast? = some x) : atI xs (-1) = some x := by
  have hne : xs ≠ [] := by intro e; rw [e] at h; cases h
  have hl : 0 < xs.length := List.length_pos_iff.mpr hne
  rw [List.getLast?_eq_getElem?] at h
  unfold atI ixN
  have e : ¬ (0 : Int) ≤ -1 := by omega
  have e2 : -(xs.length : Int) ≤ -1 := by omega
  have e3 : ((-1 : Int) + xs.length).toNat = xs.length - 1 := by omega
  rw [if_neg e, if_pos e2, e3]
  exact h
theorem atI_k {xs : List AV} {k : Nat} {x : AV} (h : xs[k]? = some x) : atI xs (k : Int) = some x := by
  have hl := (List.getElem?_eq_some_iff.mp h).1
  unfold atI ixN
  rw [if_pos (by omega), if_pos (by omega)]
  exact h
/-! ### comprehensions with a test, over a list of things -/
section
variable {α : Type} {vs : AM.Loc} {it : IT} {own : List Nat} {g : CG} {t : CT} {ce : CE}
theorem ok_lcP {M : AH} {L : List α} {f : α → AV} {p : α → Bool} {h : α → AV} {Q : AV → AH → Prop} (hok : ∀ M', Grw M M' → it.ok M' = true) (hi : it.items = L.map f) (hl : L.length < 1000000)
    (hs : ∀ x ∈ L, ∀ M', Grw M M' → ∃ vs1, g (f x) (wipeL vs own) M' = .nx vs1 M' ∧ OkR (t vs1 M') fun b M2 => b = p x ∧ Grw M' M2 ∧ (p x = true → OkR (ce vs1 M2) fun r M3 => r = h x ∧ Grw M2 M3))
    (he : ∀ M', Grw M M' → M'[M.length]? = some (.lst ((L.filter p).map h)) → Q (.ref M.length) M') : OkR (lcL it M.length own g t ce vs it.items (M ++ [.lst []])) Q := by
  refine ok_lcL (fun acc rest M2 => ∃ done todo, L = done ++ todo ∧ rest = todo.map f ∧ acc = (done.filter p).map h ∧ M2[M.length]? = some (.lst acc) ∧ Grw M M2) (fun acc rest M2 ⟨_, _, _, _, _, _, fr⟩ => hok _ fr) ?_ ?_ it.items [] _ ⟨[], L, rfl, hi, rfl, by simp, Grw.app⟩
  · rintro acc x rest M2 ⟨done, todo, e, hr, ha, hd, fr⟩
    cases todo with
    | nil => cases hr
    | cons y todo =>
      obtain ⟨rfl, rfl⟩ := List.cons.inj hr
      obtain ⟨vs1, e1, z⟩ := hs y (by rw [e]; simp) M2 fr
      refine ⟨vs1, e1, z.imp ?_⟩
      rintro b M3 ⟨rfl, g3, k⟩
      cases hp : p y with
      | false =>
        rw [if_neg (by simp)]
        exact ⟨done ++ [y], todo, by rw [e]; simp, rfl, by rw [ha]; simp [hp], g3.get _ _ hd, fr.trans g3⟩
      | true =>
        rw [if_pos rfl]
        refine (k hp).imp ?_
        rintro r M4 ⟨rfl, g4⟩
        have hd4 := g4.get _ _ (g3.get _ _ hd)
        refine ⟨?_, hd4, done ++ [y], todo, by rw [e]; simp, rfl, by rw [ha]; simp [hp], set_get hd4, ((fr.trans g3).trans g4).fresh (Nat.le_refl _)⟩
        have : acc.length ≤ L.length := by
          rw [ha, e]
          simp
          exact Nat.le_trans (List.length_filter_le _ _) (Nat.le_add_right _ _)
        unfold sizeLine
        omega
  · rintro acc M2 ⟨done, todo, e, hr, ha, hd, fr⟩
    have : todo = [] := by
      cases todo with
      | nil => rfl
      | cons _ _ => cases hr
    subst this
    rw [List.append_nil] at e
    exact he _ fr (by rw [hd, ha, e])
/-- the same over a list that stands at i -/
theorem ok_lcX {c : CE} {M : AH} {i : Nat} {L : List α} {f : α → AV} {p : α → Bool} {h : α → AV} {Q : AV → AH → Prop} (hc : c vs M = .ok (.ref i) M) (hg : M[i]? = some (.lst (L.map f))) (hl : L.length < 1000000)
    (hs : ∀ x ∈ L, ∀ M', Grw M M' → ∃ vs1, g (f x) (wipeL vs own) M' = .nx vs1 M' ∧ OkR (t vs1 M') fun b M2 => b = p x ∧ Grw M' M2 ∧ (p x = true → OkR (ce vs1 M2) fun r M3 => r = h x ∧ Grw M2 M3))
    (he : ∀ d M', Grw M M' → M.length ≤ d → M'[d]? = some (.lst ((L.filter p).map h)) → Q (.ref d) M') : OkR (lcC own (valI c) g t ce vs M) Q :=
  ok_lc (val_lst hc hg (ok_lcP (fun M' g' => it_ok (g'.get _ _ hg)) rfl hl hs fun M' g' hd => he _ _ g' (Nat.le_refl _) hd))
/-- without a test -/
theorem ok_lcM {c : CE} {M : AH} {i : Nat} {L : List α} {f : α → AV} {h : α → AV} {Q : AV → AH → Prop} (hc : c vs M = .ok (.ref i) M) (hg : M[i]? = some (.lst (L.map f))) (hl : L.length < 1000000)
    (hs : ∀ x ∈ L, ∀ M', Grw M M' → ∃ vs1, g (f x) (wipeL vs own) M' = .nx vs1 M' ∧ OkR (ce vs1 M') fun r M3 => r = h x ∧ Grw M' M3)
    (he : ∀ d M', Grw M M' → M.length ≤ d → M'[d]? = some (.lst (L.map h)) → Q (.ref d) M') : OkR (lcC own (valI c) g yesT ce vs M) Q :=
  ok_lcX (p := fun _ => true) hc hg hl (fun x hx M' g' => by
    obtain ⟨vs1, e, z⟩ := hs x hx M' g'
    exact ⟨vs1, e, ⟨rfl, Grw.refl, fun _ => z⟩⟩) fun d M' g' hd hm => he d M' g' hd (by rw [hm, List.filter_eq_self.mpr (fun _ _ => rfl)])
end
/-! ### data -/
theorem shaped_ints (xs : List Int) : SeqAt.shaped (.list (xs.map .int)) = true := by
  have := depth_ints xs
  simp [SeqAt.shaped, PyData.canLay0, canLay_ints, PyData.depth]
  omega
/-- data of small depth are shaped -/
theorem datS_of {M : AH} {a : AV} {d : PyData} (h : dat M 40 a = some d) (s : SeqAt.shaped d = true) : datS M a = some d := by
  unfold datS
  rw [h]
  simp only [s, if_true]
theorem datS_non {M : AH} : datS M .non = some .none := datS_of rfl (by simp [SeqAt.shaped, PyData.canLay0, PyData.depth])
theorem datS_bl {M : AH} {b : Bool} : datS M (.bl b) = some (.bool b) := datS_of rfl (by simp [SeqAt.shaped, PyData.canLay0, PyData.depth])
theorem opEq_bl {M : AH} {i j : Bool} : opEq (.bl i) (.bl j) M = .ok (.bl (i == j)) M := by
  unfold opEq
  rw [datS_bl, datS_bl]
  cases i <;> cases j <;> simp [PyData.eqv]
theorem opNe_bl {M : AH} {i j : Bool} : opNe (.bl i) (.bl j) M = .ok (.bl (i != j)) M := by
  unfold opNe
  rw [datS_bl, datS_bl]
  cases i <;> cases j <;> simp [PyData.eqv]
theorem opNe_int {M : AH} {i j : Int} : opNe (.int i) (.int j) M = .ok (.bl (i != j)) M := by
  unfold opNe
  rw [datS_int, datS_int]
  simp only [PyData.eqv]
  rfl
/-! ### ==, != where no own instance stands on the left -/
section
variable {fns ws : List Str} {es : List (Str × (List SV → AH → R AV))} {M : AH}
theorem eqX_ref {i : Nat} {xs : List AV} {b : AV} (h : M[i]? = some (.lst xs)) : opEqX fns ws es (.ref i) b M = opEq (.ref i) b M := by
  have e : insOf M i = none := by simp only [insOf, h]
  unfold opEqX eqOwn
  simp only [e]
  rfl
theorem neY_ref {i j : Nat} {xs : List AV} (h : M[i]? = some (.lst xs)) : opNeY fns ws es (.ref i) (.ref j) M = opNe (.ref i) (.ref j) M := by
  have e : insOf M i = none := by simp only [insOf, h]
  unfold opNeY opNeX eqOwn
  simp only [e]
  rfl
theorem eqX_int {i : Int} {b : AV} : opEqX fns ws es (.int i) b M = opEq (.int i) b M := rfl
theorem neY_int {i : Int} {b : AV} : opNeY fns ws es (.int i) b M = opNe (.int i) b M := rfl
theorem eqX_bl {i : Bool} {b : AV} : opEqX fns ws es (.bl i) b M = opEq (.bl i) b M := rfl
theorem neY_bl {i : Bool} {b : AV} : opNeY fns ws es (.bl i) b M = opNe (.bl i) b M := rfl
theorem eqX_tup' {xs : List AV} {b : AV} : opEqX fns ws es (.tup xs) b M = opEq (.tup xs) b M := by cases b <;> rfl
theorem neY_tup' {xs : List AV} {b : AV} : opNeY fns ws es (.tup xs) b M = opNe (.tup xs) b M := by cases b <;> rfl
end
/-- a list of data beside the empty one -/
theorem eqv_nil {ds : List PyData} : PyData.eqv (.list ds) (.list []) = ds.isEmpty := by
  cases ds <;> simp [PyData.eqv, PyData.eqvAll]
/-! ### closures -/
theorem ok_callX {n : Nat} {F : List SV → AH → R AV} {r : CX'} {vs : AM.Loc} {M : AH} {Q : AV → AH → Prop} (h : OkR (r vs M) fun as M1 => as.length = n ∧ OkR (F as M1) Q) : OkR (callX n F r vs M) Q :=
  OkR.bind (h.imp fun _ _ ⟨e, z⟩ => by rw [if_pos e]; exact z)
theorem ok_nilX {vs : AM.Loc} {M : AH} {Q : List SV → AH → Prop} (h : Q [] M) : OkR (nilX vs M) Q := h
theorem ok_consX {c : CE} {r : CX'} {vs : AM.Loc} {M : AH} {Q : List SV → AH → Prop} (h : OkR (c vs M) fun a M1 => OkR (r vs M1) fun as M2 => Q (.val a :: as) M2) : OkR (consX c r vs M) Q :=
  OkR.bind (h.imp fun _ _ z => OkR.bind z)
theorem ok_consV {i : Nat} {sv : SV} {r : CX'} {vs : AM.Loc} {M : AH} {Q : List SV → AH → Prop} (hv : vs[i]? = some (some sv)) (h : OkR (r vs M) fun as M2 => Q (sv :: as) M2) : OkR (consV i r vs M) Q := by
  unfold consV
  rw [hv]
  exact OkR.bind h
theorem ok_consL {k n : Nat} {js : List Nat} {c : CE} {r : CX'} {vs : AM.Loc} {M : AH} {Q : List SV → AH → Prop} (h : OkR (r vs M) fun as M2 => Q (.clo (k + 1) (lamF n js vs c) :: as) M2) : OkR (consL k n js c r vs M) Q := OkR.bind h
theorem ok_clo {kx i k : Nat} {F : List AV → AH → R AV} {r : CA} {vs : AM.Loc} {M : AH} {Q : AV → AH → Prop} (hv : vs[i]? = some (some (.clo k F))) (hk : k ≤ kx) (h : OkR (r vs M) fun as M1 => OkR (F as M1) Q) : OkR (cloC kx i r vs M) Q := by
  unfold cloC
  rw [hv]
  show OkR (if k ≤ kx then _ else _) Q
  rw [if_pos hk]
  exact OkR.bind h
/-! ### more rules -/
section
variable {vs : AM.Loc} {M : AH} {N : AM.Loc → AH → Prop} {T : AV → AH → Prop}
theorem ok_sliceC {c : CE} {lo hi : CO} {Q : AV → AH → Prop} (h : OkR (c vs M) fun a M1 => OkR (lo vs M1) fun l M2 => OkR (hi vs M2) fun h M3 => OkR (opSl a l h M3) Q) : OkR (sliceC c lo hi vs M) Q :=
  OkR.bind (h.imp fun _ _ z => OkR.bind (z.imp fun _ _ z => OkR.bind z))
theorem ok_someO {c : CE} {Q : Option Int → AH → Prop} (h : OkR (c vs M) fun a M1 => ∃ i, a = .int i ∧ Q (some i) M1) : OkR (someO c vs M) Q := by
  refine OkR.bind (h.imp ?_)
  rintro a M1 ⟨i, rfl, q⟩
  exact q
theorem ok_noO {Q : Option Int → AH → Prop} (h : Q none M) : OkR (noO vs M) Q := h
theorem orC_t {a b : CE} {Q : AV → AH → Prop} (h : OkR (a vs M) fun x M1 => x = .bl true ∧ Q (.bl true) M1) : OkR (orC a b vs M) Q :=
  OkR.bind (h.imp fun x M1 ⟨e, q⟩ => by subst e; exact q)
theorem orC_f {a b : CE} {Q : AV → AH → Prop} (h : OkR (a vs M) fun x M1 => x = .bl false ∧ OkR (b vs M1) Q) : OkR (orC a b vs M) Q :=
  OkR.bind (h.imp fun x M1 ⟨e, q⟩ => by subst e; exact q)
theorem ok_orC {a b : CE} {Q : AV → AH → Prop} (h : OkR (a vs M) fun x M1 => ∃ k, x = .bl k ∧ if k = true then Q (.bl true) M1 else OkR (b vs M1) Q) : OkR (orC a b vs M) Q :=
  OkR.bind (h.imp fun x M1 ⟨k, e, q⟩ => by subst e; cases k <;> exact q)
theorem andT_t {a b : CT} {Q : Bool → AH → Prop} (h : OkR (a vs M) fun k M1 => k = true ∧ OkR (b vs M1) Q) : OkR (andT a b vs M) Q :=
  ok_andT (h.imp fun k M1 ⟨e, q⟩ => by subst e; exact q)
theorem andT_f {a b : CT} {Q : Bool → AH → Prop} (h : OkR (a vs M) fun k M1 => k = false ∧ Q false M1) : OkR (andT a b vs M) Q :=
  ok_andT (h.imp fun k M1 ⟨e, q⟩ => by subst e; exact q)
theorem ok_whileC {t : CT} {b : CS} (I : Nat → AM.Loc → AH → Prop) (hs : ∀ n vs M, I n vs M → OkR (t vs M) fun k M1 => if k = true then ∃ m, n = m + 1 ∧ OkS (b vs M1) (fun vs M => I m vs M) T else N vs M1) {n : Nat} (hn : n < 1000000000) (h : I n vs M) : OkS (whileC t b vs M) N T :=
  ok_while I hs n wfuel vs M hn h
end
end AP
end

section
set_option Elab.async false
set_option linter.all false
set_option autoImplicit false
set_option maxRecDepth 100000
set_option maxHeartbeats 4000000
/-! k69, the plain side: gains, bits, out. -/
namespace K69
open PySem AM L2 AP
local macro_rules | `(tactic| and_intros) => `(tactic| repeat (first | (with_reducible first | refine ok_seq ?_ | refine ok_ret ?_ | refine ok_set ?_ | refine ok_drop ?_ | refine ok_con ?_ | refine ok_nil ?_ | refine ok_cons ?_ | refine ok_args ?_ | refine ok_bin ?_ | refine ok_un ?_ | refine ok_tru ?_ | refine ok_notT ?_ | refine ok_cmp ?_ | refine ok_par ?_ | refine ok_for ?_ | refine ok_skip ?_ | refine ok_notC ?_ | refine ok_ifC ?_ | refine ok_call ?_) | ((with_reducible apply ok_var); exact rfl)))
def En.av (e : En) : AV := .tup [.int e.s, .int e.w, .bl e.b]
def lowX (L : List En) (s : Int) : List Int := (L.filter fun e => e.b && decide (e.s ≤ s)).map fun e => e.w - e.s
def highX (L : List En) (s : Int) : List Int := (L.filter fun e => !e.b && decide (s ≤ e.s)).map fun e => e.w - e.s - 1
def mxO : List Int → AV
  | [] => .non
  | n :: ns => .int (mxI n ns)
def mnO : List Int → AV
  | [] => .non
  | n :: ns => .int (mnI n ns)
theorem intsOf_map : ∀ xs : List Int, intsOf (xs.map .int) = some xs
  | [] => rfl
  | x :: xs => by
    show (intsOf (xs.map .int)).map (x :: ·) = _
    rw [intsOf_map xs]
    rfl
theorem max_lst {M : AH} {i : Nat} {n : Int} {ns : List Int} (h : M[i]? = some (.lst ((n :: ns).map .int))) : maxLA [.ref i] M = .ok (.int (mxI n ns)) M := by
  simp only [maxLA, lstOf, h, intsOf_map]
theorem min_lst {M : AH} {i : Nat} {n : Int} {ns : List Int} (h : M[i]? = some (.lst ((n :: ns).map .int))) : minLA [.ref i] M = .ok (.int (mnI n ns)) M := by
  simp only [minLA, lstOf, h, intsOf_map]
theorem ne_ints {M : AH} {i j : Nat} {xs : List Int} (h : M[i]? = some (.lst (xs.map .int))) (g : M[j]? = some (.lst [])) : opNeY fns ws [] (.ref i) (.ref j) M = .ok (.bl (!xs.isEmpty)) M := by
  rw [neY_ref h]
  unfold opNe
  rw [datS_ints h, datS_nil g]
  simp only [eqv_nil]
  cases xs <;> rfl
section
variable {L : List En} {g : Nat} {s : Int} {M : AH}
theorem low_ok (hg : M[g]? = some (.lst (L.map En.av))) (hl : L.length < 1000000) : OkR (f_law_low_gain [.val (.ref g), .val (.int s)] M) fun r M' => r = mxO (lowX L s) ∧ Grw M M' := by
  refine ok_fn (ok_seq (ok_set ?_))
  refine ok_lcX (α := En) (L := L) (f := En.av) (p := fun e => e.b && decide (e.s ≤ s)) (h := fun e => .int (e.w - e.s)) (var_eq rfl) hg hl ?_ ?_
  · rintro ⟨a, b, c⟩ he M' g'
    refine ⟨_, rfl, ?_⟩
    cases c with
    | false => exact okv (a := false) (M := M') rfl ⟨rfl, Grw.refl, fun z => by cases z⟩
    | true => exact okv (a := decide (a ≤ s)) (M := M') rfl ⟨rfl, Grw.refl, fun _ => okv (a := .int (b - a)) (M := M') rfl ⟨rfl, Grw.refl⟩⟩
  · intro d M1 g1 hd hm
    have hm : M1[d]? = some (.lst ((lowX L s).map .int)) := by rw [hm]; simp [lowX, List.map_map, Function.comp_def]
    and_intros
    refine okv (new_lst (by simp)) ?_
    refine okv (ne_ints (app_get hm) (by simp)) ⟨_, rfl, ?_⟩
    cases hx : lowX L s with
    | nil => exact ⟨rfl, g1.trans Grw.app⟩
    | cons n ns =>
      rw [hx] at hm
      rw [if_pos (by rfl)]
      and_intros
      exact okv (max_lst (app_get hm)) ⟨rfl, g1.trans Grw.app⟩
theorem high_ok (hg : M[g]? = some (.lst (L.map En.av))) (hl : L.length < 1000000) : OkR (f_law_high_gain [.val (.ref g), .val (.int s)] M) fun r M' => r = mnO (highX L s) ∧ Grw M M' := by
  refine ok_fn (ok_seq (ok_set ?_))
  refine ok_lcX (α := En) (L := L) (f := En.av) (p := fun e => !e.b && decide (s ≤ e.s)) (h := fun e => .int (e.w - e.s - 1)) (var_eq rfl) hg hl ?_ ?_
  · rintro ⟨a, b, c⟩ he M' g'
    refine ⟨_, rfl, ?_⟩
    cases c with
    | true => exact okv (a := false) (M := M') rfl ⟨rfl, Grw.refl, fun z => by cases z⟩
    | false => exact okv (a := decide (s ≤ a)) (M := M') rfl ⟨rfl, Grw.refl, fun _ => okv (a := .int (b - a - 1)) (M := M') rfl ⟨rfl, Grw.refl⟩⟩
  · intro d M1 g1 hd hm
    have hm : M1[d]? = some (.lst ((highX L s).map .int)) := by rw [hm]; simp [highX, List.map_map, Function.comp_def]
    and_intros
    refine okv (new_lst (by simp)) ?_
    refine okv (ne_ints (app_get hm) (by simp)) ⟨_, rfl, ?_⟩
    cases hx : highX L s with
    | nil => exact ⟨rfl, g1.trans Grw.app⟩
    | cons n ns =>
      rw [hx] at hm
      rw [if_pos (by rfl)]
      and_intros
      exact okv (min_lst (app_get hm)) ⟨rfl, g1.trans Grw.app⟩
end
/-! ### bits -/
theorem bits_ok {n : Int} {M : AH} (hn : n < 100000000) : OkR (f_law_bits [.val (.int n)] M) fun r M' => ∃ k : Nat, r = .int k ∧ n ≤ 2 ^ k ∧ (k = 0 ∨ (k : Int) < 2 * n) ∧ M' = M := by
  refine ok_fn (ok_seq ?_)
  have e1 : asgC (argsC tupA (consA (conC (.int 0)) (consA (conC (.int 1)) nilA))) (tupG 2 (consG (nameG 1) (consG (nameG 2) nilG))) (startL 3 [.val (.int n)]) M = .nx [some (.val (.int n)), some (.val (.int 0)), some (.val (.int 1))] M := rfl
  rw [e1]
  show OkS (seqC _ _ _ _) _ _
  refine ok_seq (ok_whileC (fun m vs M' => ∃ k : Nat, vs = [some (.val (.int n)), some (.val (.int k)), some (.val (.int (2 ^ k)))] ∧ M' = M ∧ (n - 2 ^ k).toNat ≤ m ∧ (k = 0 ∨ (2 : Int) ^ k < 2 * n)) ?_ (n := (n - 1).toNat) (by omega) ⟨0, rfl, rfl, by simp, .inl rfl⟩)
  rintro m vs M' ⟨k, rfl, rfl, hm, hk⟩
  refine okv (a := decide ((2 : Int) ^ k < n)) (M := M') rfl ?_
  by_cases q : (2 : Int) ^ k < n
  · rw [if_pos (decide_eq_true q)]
    have pp : (0 : Int) < 2 ^ k := Int.pow_pos (by decide)
    cases m with
    | zero => omega
    | succ m =>
      refine ⟨m, rfl, ?_⟩
      have lg : ((2 : Int) ^ k).natAbs.log2 + (2 : Int).natAbs.log2 < 1000000 := by
        have a : ((2 : Int) ^ k).natAbs.log2 < 60 := log2_lt (by omega) (by decide)
        have b : (2 : Int).natAbs.log2 < 60 := log2_lt (by decide) (by decide)
        omega
      have mm : opMul (.int (2 ^ k)) (.int 2) M' = .ok (.int (2 ^ k * 2)) M' := by
        show (if _ then _ else _) = _
        rw [if_pos lg]
      and_intros
      refine okv (a := .int (k + 1)) (M := M') rfl ?_
      and_intros
      refine okv mm ?_
      and_intros
      refine ⟨_, _, rfl, k + 1, ?_, rfl, ?_, ?_⟩
      · rw [Int.pow_succ]; rfl
      · rw [Int.pow_succ]; omega
      · rw [Int.pow_succ]; omega
  · rw [if_neg (by simpa using q)]
    refine ok_ret (ok_var rfl ⟨k, rfl, by omega, hk.imp id fun h => ?_, rfl⟩)
    have a : k < 2 ^ k := Nat.lt_two_pow_self
    have b : (k : Int) < 2 ^ k := by exact_mod_cast a
    omega
/-! ### told stairs -/
def oav : Option Int → AV
  | none => .non
  | some g => .int g
def opd : Option Int → PyData
  | none => .none
  | some g => .int g
def tav (p : Int × Option Int) : AV := .tup [.int p.1, oav p.2]
def outO (s : Int) : Option (Option Int) → AV
  | none => .int (-1)
  | some none => .non
  | some (some g) => .int (s + g)
def outV (T : Tld) (s : Int) : AV := outO s (lastG T s)
theorem canLay_opts : ∀ ns : List (Option Int), PyData.canLayAll0 (ns.map opd) = true
  | [] => by simp [PyData.canLayAll0]
  | none :: ns => by simp [PyData.canLayAll0, opd, PyData.canLay0, canLay_opts ns]
  | some n :: ns => by simp [PyData.canLayAll0, opd, PyData.canLay0, canLay_opts ns]
theorem depth_opts : ∀ ns : List (Option Int), PyData.depthAll (ns.map opd) ≤ 1
  | [] => by simp [PyData.depthAll]
  | n :: ns => by
    have := depth_opts ns
    cases n <;> simp [PyData.depthAll, opd, PyData.depth] <;> omega
theorem dat_opt {M : AH} {k : Nat} (o : Option Int) : dat M (k + 1) (oav o) = some (opd o) := by cases o <;> rfl
theorem datS_opts {M : AH} {i : Nat} {os : List (Option Int)} (h : M[i]? = some (.lst (os.map oav))) : datS M (.ref i) = some (.list (os.map opd)) := by
  refine datS_of ?_ ?_
  · show (match M[i]? with
      | some (.lst xs) => (datAll (dat M 39) xs).map PyData.list
      | some (.frz xs) => (datAll (dat M 39) xs).map PyData.list
      | _ => none) = _
    rw [h]
    show (datAll (dat M 39) (os.map oav)).map PyData.list = _
    rw [datAll_map (f := oav) (g := opd) (fun x => dat_opt x)]
    rfl
  · have := depth_opts os
    simp [SeqAt.shaped, PyData.canLay0, canLay_opts, PyData.depth]
    omega
theorem out_ok {T : Tld} {h : Nat} {s : Int} {M : AH} (hT : M[h]? = some (.lst (T.map tav))) (hl : T.length < 1000000) : OkR (f_law_out [.val (.ref h), .val (.int s)] M) fun r M' => r = outV T s ∧ Grw M M' := by
  refine ok_fn (ok_seq (ok_set ?_))
  refine ok_lcX (α := Int × Option Int) (L := T) (f := tav) (p := fun p => decide (p.1 ≤ s)) (h := fun p => oav p.2) (var_eq rfl) hT hl ?_ ?_
  · rintro ⟨a, b⟩ he M' g'
    exact ⟨_, rfl, okv (a := decide (a ≤ s)) (M := M') rfl ⟨rfl, Grw.refl, fun _ => okv (a := oav b) (M := M') rfl ⟨rfl, Grw.refl⟩⟩⟩
  · intro d M1 g1 hd hm
    obtain ⟨os, eo⟩ : ∃ os : List (Option Int), os = (T.filter fun p => decide (p.1 ≤ s)).map (·.2) := ⟨_, rfl⟩
    have hm : M1[d]? = some (.lst (os.map oav)) := by rw [hm, eo]; simp [List.map_map, Function.comp_def]
    have eq : opEqX fns ws [] (.ref d) (.ref M1.length) (M1 ++ [.lst []]) = .ok (.bl os.isEmpty) (M1 ++ [.lst []]) := by
      rw [eqX_ref (app_get hm)]
      unfold opEq
      rw [datS_opts (app_get hm), datS_nil (by simp)]
      simp only [eqv_nil]
      cases os <;> rfl
    refine ok_seq (ok_if ?_)
    and_intros
    refine okv (new_lst (by simp)) ?_
    refine okv eq ⟨_, rfl, ?_⟩
    have lg : lastG T s = os.getLast? := by rw [eo]; rfl
    cases hx : os.getLast? with
    | none =>
      have : os = [] := List.getLast?_eq_none_iff.mp hx
      subst this
      rw [if_pos (by rfl)]
      refine ok_ret (okv (a := .int (-1)) (M := M1 ++ [.lst []]) rfl ⟨?_, g1.trans Grw.app⟩)
      unfold outV
      rw [lg, hx]
      rfl
    | some o =>
      have hne : os.isEmpty = false := by cases os with
        | nil => cases hx
        | cons _ _ => rfl
      rw [hne, if_neg (by simp)]
      have hm2 : (M1 ++ [AO.lst []])[d]? = some (.lst (os.map oav)) := app_get hm
      have ix : opIx (.ref d) (.int (-1)) (M1 ++ [.lst []]) = .ok (oav o) (M1 ++ [.lst []]) := ix_at hm2 (atI_last (by rw [List.getLast?_map, hx]; rfl))
      have g2 : Grw M (M1 ++ [.lst []]) := g1.trans Grw.app
      generalize M1 ++ [AO.lst []] = M2 at ix g2
      have ev : bin2 opIx (varC 2) (un1 opNeg (conC (.int 1))) [some (.val (.ref h)), some (.val (.int s)), some (.val (.ref d)), none] M2 = .ok (oav o) M2 := ix
      refine ok_skip (ok_ret (ok_ifC (ok_cmp (okv ev ?_))))
      have e : outV T s = outO s (some o) := by unfold outV; rw [lg, hx]
      rw [e]
      cases o with
      | none => exact okv (a := .non) (M := M2) rfl (okv (a := .bl true) (M := M2) rfl ⟨true, rfl, rfl, g2⟩)
      | some v =>
        refine okv (a := .non) (M := M2) rfl (okv (a := .bl false) (M := M2) rfl ⟨false, rfl, ?_⟩)
        rw [if_neg (by simp)]
        exact ok_bin (ok_var (a := .int s) rfl (okv ev (okv (a := .int (s + v)) (M := M2) rfl ⟨rfl, g2⟩)))
end K69
end

section
set_option Elab.async false
set_option linter.all false
set_option autoImplicit false
set_option maxRecDepth 100000
set_option maxHeartbeats 4000000
/-! k69, the plain side: stairs. -/
namespace K69
open PySem AM L2 AP
local macro_rules | `(tactic| and_intros) => `(tactic| repeat (first | (with_reducible first | refine ok_seq ?_ | refine ok_ret ?_ | refine ok_set ?_ | refine ok_drop ?_ | refine ok_con ?_ | refine ok_nil ?_ | refine ok_cons ?_ | refine ok_args ?_ | refine ok_bin ?_ | refine ok_un ?_ | refine ok_tru ?_ | refine ok_notT ?_ | refine ok_cmp ?_ | refine ok_par ?_ | refine ok_for ?_ | refine ok_skip ?_ | refine ok_notC ?_ | refine ok_ifC ?_ | refine ok_call ?_) | ((with_reducible apply ok_var); exact rfl)))
section
variable {T : Tld} {M : AH}
theorem is_stair_ok {p : Int × Option Int} (h0 : 0 ≤ p.1) (h1 : ∀ g, p.2 = some g → 0 ≤ p.1 + g) : OkR (f_law_is_stair [.val (tav p)] M) fun r M' => r = .bl true ∧ M' = M := by
  obtain ⟨n, o⟩ := p
  refine ok_fn (ok_seq (if_f (orT_f (okv (a := false) (M := M) rfl ⟨rfl, orT_f ?_⟩))))
  refine ok_cmp (okv (a := .int 2) (M := M) rfl (okv (a := .int 2) (M := M) rfl ?_))
  refine okv (neY_int.trans opNe_int) ⟨_, rfl, by rfl, ?_⟩
  refine orT_f (okv (a := false) (M := M) rfl ⟨rfl, okv (a := decide (n < 0)) (M := M) rfl ⟨?_, ok_skip (ok_ret ?_)⟩⟩)
  · have h0 : 0 ≤ n := h0
    exact decide_eq_false (by omega)
  cases o with
  | none => exact orC_t (okv (a := .bl true) (M := M) rfl ⟨rfl, rfl, rfl⟩)
  | some g =>
    refine orC_f (okv (a := .bl false) (M := M) rfl ⟨rfl, andC_t (okv (a := .bl true) (M := M) rfl ⟨rfl, okv (a := .bl (decide (0 ≤ n + g))) (M := M) rfl ⟨?_, rfl⟩⟩)⟩)
    rw [decide_eq_true (h1 g rfl)]
/-! ### up -/
def upn (o : Option Int) : Int := if o = none then 1 else 0
def upg : Option Int → Int
  | none => 0
  | some g => g
def uav (p : Int × Option Int) : AV := .tup [.int p.1, .int (upn p.2), .int (upg p.2)]
def upd' (p : Int × Option Int) : PyData := .tuple [.int p.1, .int (upn p.2), .int (upg p.2)]
theorem datS_u {p : Int × Option Int} : datS M (uav p) = some (upd' p) := datS_of rfl (by simp [upd', SeqAt.shaped, PyData.canLay0, PyData.canLayAll0, PyData.depth, PyData.depthAll])
theorem canLay_us : ∀ ns : Tld, PyData.canLayAll0 (ns.map upd') = true
  | [] => by simp [PyData.canLayAll0]
  | p :: ns => by simp [PyData.canLayAll0, upd', PyData.canLay0, canLay_us ns]
theorem depth_us : ∀ ns : Tld, PyData.depthAll (ns.map upd') ≤ 2
  | [] => by simp [PyData.depthAll]
  | n :: ns => by
    have := depth_us ns
    simp [PyData.depthAll, upd', PyData.depth]
    omega
theorem datS_us {i : Nat} {ts : Tld} (h : M[i]? = some (.lst (ts.map uav))) : datS M (.ref i) = some (.list (ts.map upd')) := by
  refine datS_of ?_ ?_
  · show (match M[i]? with
      | some (.lst xs) => (datAll (dat M 39) xs).map PyData.list
      | some (.frz xs) => (datAll (dat M 39) xs).map PyData.list
      | _ => none) = _
    rw [h]
    show (datAll (dat M 39) (ts.map uav)).map PyData.list = _
    rw [datAll_map (f := uav) (g := upd') (fun x => rfl)]
    rfl
  · have := depth_us ts
    simp [SeqAt.shaped, PyData.canLay0, canLay_us, PyData.depth]
    omega
theorem gl_up {a b : Option Int} (h : gl a b) : upn a < upn b ∨ (upn a = upn b ∧ upg a < upg b) := by
  cases a <;> cases b <;> simp [gl, upn, upg] at h ⊢
  omega
theorem alike_u {p q : Int × Option Int} : PySem.W.alike (upd' p) (upd' q) = true := by simp [upd', PySem.W.alike, PySem.W.alikeAll]
theorem lt_u {p q : Int × Option Int} (h : p.1 < q.1) : PySem.W.dataLt (upd' q) (upd' p) = false := by
  unfold upd'
  rw [PySem.W.dataLt_tuple, PySem.W.dataLt_cons (by simp [PySem.W.alike])]
  have e : PyData.eqv (.int q.1) (.int p.1) = false := by
    simp only [PyData.eqv]
    simp
    omega
  rw [e, PySem.W.dataLt_int]
  simp
  omega
theorem sort_u (ha : Asc T) (hl : T.length < 1000000) {i : Nat} (h : M[i]? = some (.lst (T.map uav))) : sortedA [.ref i] M = .ok (.ref M.length) (M ++ [.lst (T.map uav)]) := by
  have l : lstOf (.ref i) M = some (T.map uav) := by simp [lstOf, h]
  have hl2 : (T.map uav).length ≤ sizeLine := by simp; unfold sizeLine; omega
  have so : sortOk M (T.map uav) = true := by
    have h1 : ((T.map uav).all fun x => (datS M x).isSome) = true := by simp [datS_u]
    have h2 : ((T.map uav).all fun x => (T.map uav).all fun y => PySem.W.alike (datK M x) (datK M y)) = true := by simp [datK, datS_u, alike_u]
    have h3 : ((T.map uav).all fun x => tupB (datK M x)) = true := by simp [datK, datS_u, upd', tupB]
    unfold sortOk
    rw [h1, h2, h3]
    rfl
  unfold sortedA
  simp only [l, if_pos (And.intro so hl2)]
  unfold sortA
  have e : (T.map uav).mergeSort (PySem.W.dataLe false (datK M)) = T.map uav := by
    refine List.mergeSort_of_pairwise ?_
    rw [List.pairwise_map]
    refine ha.imp ?_
    rintro p q ⟨h1, _⟩
    rw [PySem.W.dataLe_eq]
    show (!PySem.W.dataLt (datK M (uav q)) (datK M (uav p))) = true
    have k (r : Int × Option Int) : datK M (uav r) = upd' r := by simp [datK, datS_u]
    rw [k, k, lt_u h1]
    rfl
  rw [e]
  unfold newL
  rw [if_pos hl2]
theorem gt_u {p q : Int × Option Int} (h : gl p.2 q.2) : opGtD (.tup [.int (upn q.2), .int (upg q.2)]) (.tup [.int (upn p.2), .int (upg p.2)]) M = .ok (.bl true) M := by
  have d (a b : Int) : datS M (.tup [.int a, .int b]) = some (.tuple [.int a, .int b]) := datS_of rfl (by simp [SeqAt.shaped, PyData.canLay0, PyData.canLayAll0, PyData.depth, PyData.depthAll])
  unfold opGtD cmpDA
  rw [d, d]
  have al : PySem.W.alike (.tuple [.int (upn q.2), .int (upg q.2)]) (.tuple [.int (upn p.2), .int (upg p.2)]) = true := by simp [PySem.W.alike, PySem.W.alikeAll]
  simp only [al, notNon, PySem.W.dataLt_ii]
  rw [if_pos (by simp)]
  have := gl_up h
  rw [decide_eq_true this]
theorem up_ok {h : Nat} (hT : M[h]? = some (.lst (T.map tav))) (hl : T.length < 500000) (ha : Asc T) : OkR (f_law_up [.val (.ref h)] M) fun r M' => ∃ d, r = .ref d ∧ M'[d]? = some (.lst (T.map tav)) ∧ Grw M M' := by
  refine ok_fn (ok_seq (ok_par (ok_cons ?_)))
  refine ok_lcM (α := Int × Option Int) (L := T) (f := tav) (h := uav) (var_eq rfl) hT (by omega) ?_ ?_
  · rintro ⟨n, o⟩ he M' g'
    refine ⟨_, rfl, ?_⟩
    cases o with
    | none => exact okv (a := uav (n, none)) (M := M') rfl ⟨rfl, Grw.refl⟩
    | some g => exact okv (a := uav (n, some g)) (M := M') rfl ⟨rfl, Grw.refl⟩
  · intro d M1 g1 hd hm
    and_intros
    refine okv (new_lst (by simp)) ?_
    refine ok_nil ⟨_, _, rfl, ?_⟩
    have hm2 : (M1 ++ [AO.lst []])[d]? = some (.lst (T.map uav)) := app_get hm
    have hf : (M1 ++ [AO.lst []])[M1.length]? = some (.lst (([] : Tld).map uav)) := by simp
    have g2 : Grw M (M1 ++ [.lst []]) := g1.trans Grw.app
    generalize M1 ++ [AO.lst []] = M2 at hm2 hf g2
    generalize M1.length = f at hf
    show OkS (seqC _ _ [some (.val (.ref h)), some (.val (.ref d)), some (.val (.ref f)), none, none, none, none, none] M2) _ _
    refine ok_seq (ok_for ?_)
    have so := sort_u ha (by omega) hm2
    have hs : (M2 ++ [AO.lst (T.map uav)])[M2.length]? = some (.lst (T.map uav)) := by simp
    have hf3 : (M2 ++ [AO.lst (T.map uav)])[f]? = some (.lst (([] : Tld).map uav)) := app_get hf
    have g3 : Grw M (M2 ++ [AO.lst (T.map uav)]) := g2.trans Grw.app
    refine OkR.bind (ok_args (ok_cons (ok_var (a := .ref d) rfl (ok_nil (okv so ?_)))))
    generalize M2.length = so' at hs
    generalize M2 ++ [AO.lst (T.map uav)] = M3 at hs hf3 g3
    unfold iterA
    rw [walk_lst hs]
    show OkS (loopC _ _ _ (T.map uav) _ M3) _ _
    refine OkS.imp (ok_loop (T := fun _ _ => False) (N := fun vs M' => ∃ f q3 q4 q5 q6 q7, vs = [some (.val (.ref h)), some (.val (.ref d)), some (.val (.ref f)), q3, q4, q5, q6, q7] ∧ M'[f]? = some (.lst (T.map uav)) ∧ Grw M M')
      (fun rest vs M' => ∃ done todo f q3 q4 q5 q6 q7, T = done ++ todo ∧ rest = todo.map uav ∧ vs = [some (.val (.ref h)), some (.val (.ref d)), some (.val (.ref f)), q3, q4, q5, q6, q7] ∧ M'[f]? = some (.lst (done.map uav)) ∧ Grw M3 M') ?ok ?step ?fin _ _ _ ⟨[], T, f, _, _, _, _, _, rfl, rfl, rfl, hf3, Grw.refl⟩) ?after (fun _ _ z => z.elim)
    case ok =>
      rintro rest vs M' ⟨done, todo, f, q3, q4, q5, q6, q7, e, er, ev, hf, g⟩
      exact it_ok (g.get _ _ hs)
    case fin =>
      rintro vs M' ⟨done, todo, f, q3, q4, q5, q6, q7, e, er, ev, hf, g⟩
      have : todo = [] := by
        cases todo with
        | nil => rfl
        | cons _ _ => cases er
      subst this
      rw [List.append_nil] at e
      exact ⟨f, q3, q4, q5, q6, q7, ev, by rw [e]; exact hf, g3.trans g⟩
    case step =>
      rintro x rest vs M' ⟨done, todo, f, q3, q4, q5, q6, q7, e, er, rfl, hf, g⟩
      cases todo with
      | nil => cases er
      | cons p todo =>
      obtain ⟨rfl, rfl⟩ := List.cons.inj er
      show OkS (ifS _ _ _ [some (.val (.ref h)), some (.val (.ref d)), some (.val (.ref f)), q3, some (.val (.int p.1)), some (.val (.int (upn p.2))), some (.val (.int (upg p.2))), q7] M') _ _
      refine if_t ?_
      have eqn : opEqX fns ws [] (.ref f) (.ref M'.length) (M' ++ [.lst []]) = .ok (.bl done.isEmpty) (M' ++ [.lst []]) := by
        rw [eqX_ref (app_get hf)]
        unfold opEq
        rw [datS_us (app_get hf), datS_nil (by simp)]
        simp only [eqv_nil]
        cases done <;> rfl
      have hf2 : (M' ++ [AO.lst []])[f]? = some (.lst (done.map uav)) := app_get hf
      have gg : Grw M3 (M' ++ [AO.lst []]) := g.trans Grw.app
      have fin : ∀ M4, M4[f]? = some (.lst (done.map uav)) → Grw M3 M4 → OkS (asgC (bin2 opAdd (lcC [7] (valI (varC 2)) (nameG 7) (cmpT opLt (bin2 opIx (varC 7) (conC (.int 0))) (varC 4)) (varC 7)) (argsC lstA (consA (argsC tupA (consA (varC 4) (consA (varC 5) (consA (varC 6) nilA)))) nilA))) (nameG 2) [some (.val (.ref h)), some (.val (.ref d)), some (.val (.ref f)), q3, some (.val (.int p.1)), some (.val (.int (upn p.2))), some (.val (.int (upg p.2))), q7] M4)
          (fun vs M' => ∃ done todo' f q3 q4 q5 q6 q7, T = done ++ todo' ∧ todo.map uav = todo'.map uav ∧ vs = [some (.val (.ref h)), some (.val (.ref d)), some (.val (.ref f)), q3, q4, q5, q6, q7] ∧ M'[f]? = some (.lst (done.map uav)) ∧ Grw M3 M') (fun _ _ => False) := by
        intro M4 hf4 g4
        have dl : done.length ≤ T.length := by rw [e]; simp
        refine ok_set (ok_bin ?_)
        refine ok_lcX (α := Int × Option Int) (L := done) (f := uav) (p := fun _ => true) (h := uav) (var_eq rfl) hf4 (by omega) ?_ ?_
        · rintro ⟨n, o⟩ hx M5 g5
          refine ⟨_, rfl, okv (a := decide (n < p.1)) (M := M5) rfl ⟨?_, Grw.refl, fun _ => okv (a := uav (n, o)) (M := M5) rfl ⟨rfl, Grw.refl⟩⟩⟩
          have := (List.pairwise_append.mp (by rw [← e]; exact ha)).2.2 _ hx p (by simp)
          exact decide_eq_true this.1
        · intro d5 M5 g5 hd5 hm5
          have hm5 : M5[d5]? = some (.lst (done.map uav)) := by rw [hm5, List.filter_eq_self.mpr (fun _ _ => rfl)]
          have tt : argsC tupA (consA (varC 4) (consA (varC 5) (consA (varC 6) nilA))) [some (.val (.ref h)), some (.val (.ref d)), some (.val (.ref f)), q3, some (.val (.int p.1)), some (.val (.int (upn p.2))), some (.val (.int (upg p.2))), q7] M5 = .ok (uav p) M5 := rfl
          refine ok_args (ok_cons (okv tt (ok_nil (okv (new_lst (by simp)) ?_))))
          refine okv (add_lst (app_get hm5) (ys := [uav p]) (by simp) (by simp; omega)) ?_
          refine ⟨done ++ [p], todo, _, _, _, _, _, _, by rw [e]; simp, rfl, rfl, by simp, ((g4.trans g5).trans Grw.app).trans Grw.app⟩
      cases hd : done with
      | nil =>
        subst hd
        refine orT_t (ok_cmp (ok_var (a := .ref f) rfl (ok_args (ok_nil (okv (new_lst (by simp)) (okv eqn ⟨_, rfl, by rfl, ?_⟩))))))
        exact ⟨rfl, fin _ hf2 gg⟩
      | cons p0 ps =>
        have hne : done.isEmpty = false := by rw [hd]; rfl
        rw [hne] at eqn
        refine orT_f (ok_cmp (ok_var (a := .ref f) rfl (ok_args (ok_nil (okv (new_lst (by simp)) (okv eqn ⟨_, rfl, rfl, ?_⟩))))))
        obtain ⟨q, hq⟩ : ∃ q, done.getLast? = some q := by
          cases h : done.getLast? with
          | none => rw [List.getLast?_eq_none_iff] at h; rw [h] at hd; cases hd
          | some q => exact ⟨q, rfl⟩
        have hqm : q ∈ done := List.mem_of_getLast? hq
        have ha2 : Asc (done ++ p :: todo) := by rw [← e]; exact ha
        have hgl := ((List.pairwise_append.mp ha2).2.2 _ hqm p (by simp)).2
        have ix : opIx (.ref f) (.int (-1)) (M' ++ [.lst []]) = .ok (uav q) (M' ++ [.lst []]) := ix_at hf2 (atI_last (by rw [List.getLast?_map, hq]; rfl))
        have := fin _ hf2 gg
        generalize M' ++ [AO.lst []] = M4 at ix this
        have ev : bin2 opIx (varC 2) (un1 opNeg (conC (.int 1))) [some (.val (.ref h)), some (.val (.ref d)), some (.val (.ref f)), q3, some (.val (.int p.1)), some (.val (.int (upn p.2))), some (.val (.int (upg p.2))), q7] M4 = .ok (uav q) M4 := ix
        have tt : argsC tupA (consA (varC 5) (consA (varC 6) nilA)) [some (.val (.ref h)), some (.val (.ref d)), some (.val (.ref f)), q3, some (.val (.int p.1)), some (.val (.int (upn p.2))), some (.val (.int (upg p.2))), q7] M4 = .ok (.tup [.int (upn p.2), .int (upg p.2)]) M4 := rfl
        refine ok_cmp (okv tt (ok_sliceC (okv ev (ok_someO (okv (a := .int 1) (M := M4) rfl ⟨1, rfl, ok_noO (okv (a := .tup [.int (upn q.2), .int (upg q.2)]) (M := M4) rfl ?_)⟩)))))
        exact okv (gt_u hgl) ⟨_, rfl, rfl, this⟩
    case after =>
      rintro vs M' ⟨f, q3, q4, q5, q6, q7, rfl, hf, g⟩
      refine ok_ret ?_
      refine ok_lcM (α := Int × Option Int) (L := T) (f := uav) (h := tav) (var_eq rfl) hf (by omega) ?_ ?_
      · rintro ⟨n, o⟩ hx M5 g5
        refine ⟨_, rfl, ?_⟩
        refine ok_args (ok_cons (okv (a := .int n) (M := M5) rfl (ok_cons (ok_ifC (ok_cmp (okv (a := .int (upn o)) (M := M5) rfl (okv (a := .int 1) (M := M5) rfl (okv (eqX_int.trans opEq_int) ⟨_, rfl, ?_⟩))))))))
        cases o with
        | none =>
          rw [if_pos (by rfl)]
          exact okv (a := .non) (M := M5) rfl (ok_nil (ok_tup (by simp) ⟨rfl, Grw.refl⟩))
        | some v =>
          rw [if_neg (by simp [upn])]
          exact okv (a := .int v) (M := M5) rfl (ok_nil (ok_tup (by simp) ⟨rfl, Grw.refl⟩))
      · intro d5 M5 g5 hd5 hm5
        exact ⟨d5, rfl, hm5, g.trans g5⟩
end
end K69
end

section
set_option Elab.async false
set_option linter.all false
set_option autoImplicit false
set_option maxRecDepth 100000
set_option maxHeartbeats 4000000
/-! k69, the plain side: are_stairs. -/
namespace K69
open PySem AM L2 AP
local macro_rules | `(tactic| and_intros) => `(tactic| repeat (first | (with_reducible first | refine ok_seq ?_ | refine ok_ret ?_ | refine ok_set ?_ | refine ok_drop ?_ | refine ok_con ?_ | refine ok_nil ?_ | refine ok_cons ?_ | refine ok_args ?_ | refine ok_bin ?_ | refine ok_un ?_ | refine ok_tru ?_ | refine ok_notT ?_ | refine ok_cmp ?_ | refine ok_par ?_ | refine ok_for ?_ | refine ok_skip ?_ | refine ok_notC ?_ | refine ok_ifC ?_ | refine ok_call ?_) | ((with_reducible apply ok_var); exact rfl)))
/-! ### == of told stairs, item by item -/
def tpd (p : Int × Option Int) : PyData := .tuple [.int p.1, opd p.2]
theorem canLay_ts : ∀ ns : Tld, PyData.canLayAll0 (ns.map tpd) = true
  | [] => by simp [PyData.canLayAll0]
  | (a, none) :: ns => by simp [PyData.canLayAll0, tpd, opd, PyData.canLay0, canLay_ts ns]
  | (a, some b) :: ns => by simp [PyData.canLayAll0, tpd, opd, PyData.canLay0, canLay_ts ns]
theorem depth_ts : ∀ ns : Tld, PyData.depthAll (ns.map tpd) ≤ 2
  | [] => by simp [PyData.depthAll]
  | (a, none) :: ns => by
    have := depth_ts ns
    simp [PyData.depthAll, tpd, opd, PyData.depth]
    omega
  | (a, some b) :: ns => by
    have := depth_ts ns
    simp [PyData.depthAll, tpd, opd, PyData.depth]
    omega
section
variable {T : Tld} {M : AH}
theorem dat_t {k : Nat} (p : Int × Option Int) : dat M (k + 2) (tav p) = some (tpd p) := by
  obtain ⟨a, b⟩ := p
  cases b <;> rfl
theorem datS_ts {i : Nat} {ts : Tld} (h : M[i]? = some (.lst (ts.map tav))) : datS M (.ref i) = some (.list (ts.map tpd)) := by
  refine datS_of ?_ ?_
  · show (match M[i]? with
      | some (.lst xs) => (datAll (dat M 39) xs).map PyData.list
      | some (.frz xs) => (datAll (dat M 39) xs).map PyData.list
      | _ => none) = _
    rw [h]
    show (datAll (dat M 39) (ts.map tav)).map PyData.list = _
    rw [datAll_map (f := tav) (g := tpd) (fun x => dat_t x)]
    rfl
  · have := depth_ts ts
    simp [SeqAt.shaped, PyData.canLay0, canLay_ts, PyData.depth]
    omega
theorem tup_t {p : Int × Option Int} : tupleA [tav p] M = .ok (tav p) M := rfl
theorem tups_ok {i k j : Nat} {vs : AM.Loc} {Q : AV → AH → Prop} (hi : vs[i]? = some (some (.val (.ref k)))) (hT : M[k]? = some (.lst (T.map tav))) (hl : T.length < 500000) (hj : j < vs.length)
    (he : ∀ d M', Grw M M' → M.length ≤ d → M'[d]? = some (.lst (T.map tav)) → Q (.ref d) M') : OkR (lcC [j] (valI (varC i)) (nameG j) yesT (argsC tupleA (consA (varC j) nilA)) vs M) Q := by
  refine ok_lcM (α := Int × Option Int) (L := T) (f := tav) (h := tav) (var_eq hi) hT (by omega) ?_ he
  intro p hp M' g'
  refine ⟨_, rfl, ok_args (ok_cons (ok_var (a := tav p) ?_ (ok_nil (okv tup_t ⟨rfl, Grw.refl⟩))))⟩
  have : (wipeL vs [j]).length = vs.length := wipeL_len
  rw [List.getElem?_set_self (by rw [this]; exact hj)]
theorem are_ok {h : Nat} (hT : M[h]? = some (.lst (T.map tav))) (hl : T.length < 500000) (ha : Asc T) (hr : ∀ p ∈ T, 0 ≤ p.1 ∧ ∀ g, p.2 = some g → 0 ≤ p.1 + g) : OkR (f_law_are_stairs [.val (.ref h)] M) fun r M' => r = .bl true ∧ Grw M M' := by
  refine ok_fn (ok_ret (andC_t ?_))
  refine ok_args (ok_cons ?_)
  refine ok_lcM (α := Int × Option Int) (L := T) (f := tav) (h := fun _ => .bl true) (var_eq rfl) hT (by omega) ?_ ?_
  · intro p hp M' g'
    refine ⟨_, rfl, ok_call (ok_cons (ok_var (a := tav p) rfl (ok_nil ⟨rfl, ?_⟩)))⟩
    refine (is_stair_ok (hr p hp).1 (hr p hp).2).imp ?_
    rintro r M2 ⟨rfl, rfl⟩
    exact ⟨rfl, Grw.refl⟩
  · intro d M1 g1 hd hm
    have hm : M1[d]? = some (.lst ((T.map fun _ => true).map .bl)) := by rw [hm, List.map_map]; rfl
    refine ok_nil (okv (all_bls hm) ⟨by simp, ?_⟩)
    have hT1 := g1.get _ _ hT
    refine ok_bin (ok_call (ok_cons (ok_var (a := .ref h) rfl (ok_nil ⟨rfl, ?_⟩))))
    refine (up_ok hT1 hl ha).imp ?_
    rintro r M2 ⟨u, rfl, hu, g2⟩
    refine tups_ok (k := h) rfl (g2.get _ _ hT1) hl (by simp [startL]) ?_
    intro e M3 g3 he hm3
    refine okv (a := .bl true) (M := M3) ?_ ⟨rfl, (g1.trans g2).trans g3⟩
    rw [eqX_ref (g3.get _ _ hu)]
    unfold opEq
    rw [datS_ts (g3.get _ _ hu), datS_ts hm3]
    have : PyData.eqv (.list (T.map tpd)) (.list (T.map tpd)) = true := PySem.SeqAt.eqv_refl _ (by simp [PyData.canLay0, canLay_ts])
    simp only [this]
end
end K69
end

section
set_option Elab.async false
set_option linter.all false
set_option autoImplicit false
set_option maxRecDepth 100000
set_option maxHeartbeats 4000000
/-! k69, the plain side: what the answers say. -/
namespace K69
open PySem AM L2 AP
local macro_rules | `(tactic| and_intros) => `(tactic| repeat (first | (with_reducible first | refine ok_seq ?_ | refine ok_ret ?_ | refine ok_set ?_ | refine ok_drop ?_ | refine ok_con ?_ | refine ok_nil ?_ | refine ok_cons ?_ | refine ok_args ?_ | refine ok_bin ?_ | refine ok_un ?_ | refine ok_tru ?_ | refine ok_notT ?_ | refine ok_cmp ?_ | refine ok_par ?_ | refine ok_for ?_ | refine ok_skip ?_ | refine ok_notC ?_ | refine ok_ifC ?_ | refine ok_call ?_) | ((with_reducible apply ok_var); exact rfl)))
/-! ### what the answers say of the stairs -/
theorem asc_cmp {T : Tld} (ha : Asc T) {p q : Int × Option Int} (hp : p ∈ T) (hq : q ∈ T) : p = q ∨ (p.1 < q.1 ∧ gl p.2 q.2) ∨ (q.1 < p.1 ∧ gl q.2 p.2) := by
  obtain ⟨i, hi, rfl⟩ := List.getElem_of_mem hp
  obtain ⟨j, hj, rfl⟩ := List.getElem_of_mem hq
  have h := List.pairwise_iff_getElem.mp ha
  rcases Nat.lt_trichotomy i j with z | z | z
  · exact .inr (.inl (h i j hi hj z))
  · subst z; exact .inl rfl
  · exact .inr (.inr (h j i hj hi z))
theorem lastG_none {T : Tld} {s : Int} (h : lastG T s = none) : ∀ p ∈ T, s < p.1 := by
  intro p hp
  unfold lastG at h
  rw [List.getLast?_eq_none_iff, List.map_eq_nil_iff, List.filter_eq_nil_iff] at h
  have := h p hp
  simp at this
  omega
theorem lastG_some {T : Tld} {s : Int} {v : Option Int} (ha : Asc T) (h : lastG T s = some v) : ∃ p ∈ T, p.2 = v ∧ p.1 ≤ s ∧ ∀ q ∈ T, q.1 ≤ s → q = p ∨ (q.1 < p.1 ∧ gl q.2 p.2) := by
  unfold lastG at h
  rw [List.getLast?_map] at h
  cases k : (T.filter fun p => decide (p.1 ≤ s)).getLast? with
  | none => rw [k] at h; cases h
  | some p =>
    rw [k] at h
    have h : p.2 = v := Option.some.inj h
    obtain ⟨ys, e⟩ := List.getLast?_eq_some_iff.mp k
    have pm : p ∈ T.filter fun p => decide (p.1 ≤ s) := by rw [e]; simp
    have pm2 := List.mem_filter.mp pm
    refine ⟨p, pm2.1, h, by simpa using pm2.2, fun q hq hs => ?_⟩
    have qm : q ∈ T.filter fun p => decide (p.1 ≤ s) := List.mem_filter.mpr ⟨hq, by simpa using hs⟩
    have asc : (T.filter fun p => decide (p.1 ≤ s)).Pairwise fun p q => p.1 < q.1 ∧ gl p.2 q.2 := ha.filter _
    rw [e] at qm asc
    rcases List.mem_append.mp qm with z | z
    · exact .inr ((List.pairwise_append.mp asc).2.2 q z p (by simp))
    · rw [List.mem_singleton] at z; exact .inl z
theorem mem_low {L : List En} {s y : Int} : y ∈ lowX L s ↔ ∃ e ∈ L, e.b = true ∧ e.s ≤ s ∧ y = e.w - e.s := by
  unfold lowX
  simp only [List.mem_map, List.mem_filter, Bool.and_eq_true, decide_eq_true_eq]
  constructor
  · rintro ⟨e, ⟨h1, h2, h3⟩, rfl⟩; exact ⟨e, h1, h2, h3, rfl⟩
  · rintro ⟨e, h1, h2, h3, rfl⟩; exact ⟨e, ⟨h1, h2, h3⟩, rfl⟩
theorem mem_high {L : List En} {s y : Int} : y ∈ highX L s ↔ ∃ e ∈ L, e.b = false ∧ s ≤ e.s ∧ y = e.w - e.s - 1 := by
  unfold highX
  simp only [List.mem_map, List.mem_filter, Bool.and_eq_true, decide_eq_true_eq, Bool.not_eq_true']
  constructor
  · rintro ⟨e, ⟨h1, h2, h3⟩, rfl⟩; exact ⟨e, h1, h2, h3, rfl⟩
  · rintro ⟨e, h1, h2, h3, rfl⟩; exact ⟨e, ⟨h1, h2, h3⟩, rfl⟩
theorem mxO_of {xs : List Int} {y : Int} (h : y ∈ xs) : ∃ v, mxO xs = .int v ∧ v ∈ xs ∧ ∀ z ∈ xs, z ≤ v := by
  cases xs with
  | nil => cases h
  | cons n ns => exact ⟨_, rfl, (mxI_spec ns n).1, (mxI_spec ns n).2⟩
theorem mnO_of {xs : List Int} {y : Int} (h : y ∈ xs) : ∃ v, mnO xs = .int v ∧ v ∈ xs ∧ ∀ z ∈ xs, v ≤ z := by
  cases xs with
  | nil => cases h
  | cons n ns => exact ⟨_, rfl, (mnI_spec ns n).1, (mnI_spec ns n).2⟩
section
variable {most gain : Int} {T : Tld} {L : List En} {i : Nat} {n g : Int}
theorem mem_of_get {α : Type} {l : List α} {i : Nat} {a : α} (h : l[i]? = some a) : a ∈ l := List.mem_of_getElem? h
theorem ends_fst (F : Fin most gain T L) (h : 0 ≤ (ends most T).getD 0 0) : ∃ v, mnO (highX L ((ends most T).getD 0 0)) = .int v ∧ (ends most T).getD 0 0 + v < 0 := by
  obtain ⟨v, e, hv, hm⟩ := mnO_of ((mem_high (s := (ends most T).getD 0 0)).mpr ⟨_, F.fst h, rfl, Int.le_refl _, rfl⟩)
  refine ⟨v, e, ?_⟩
  have := hm _ ((mem_high (s := (ends most T).getD 0 0)).mpr ⟨_, F.fst h, rfl, Int.le_refl _, rfl⟩)
  simp only at this
  omega
theorem low_some (F : Fin most gain T L) (hp : T[i]? = some (n, some g)) : mxO (lowX L n) = .int g := by
  have w : (⟨n, n + g, true⟩ : En) ∈ L := (F.wit i _ hp).1
  obtain ⟨v, e, hv, hm⟩ := mxO_of ((mem_low (s := n)).mpr ⟨_, w, rfl, Int.le_refl _, rfl⟩)
  have h1 := hm _ ((mem_low (s := n)).mpr ⟨_, w, rfl, Int.le_refl _, rfl⟩)
  simp only at h1
  obtain ⟨x, hx, hb, hs, rfl⟩ := mem_low.mp hv
  have c := (F.cons x hx).mp hb
  have pm := mem_of_get hp
  have p0 := F.pos x hx
  have h2 : x.w - x.s ≤ g := by
    unfold above at c
    cases k : lastG T x.s with
    | none => rw [k] at c; have c : x.w ≤ -1 := c; omega
    | some o =>
      rw [k] at c
      obtain ⟨p, hp', rfl, hps, hall⟩ := lastG_some F.asc k
      rcases asc_cmp F.asc hp' pm with z | z | z
      · subst z
        have c : x.w ≤ x.s + g := c
        omega
      · cases o : p.2 with
        | none => rw [o] at z; exact z.2.elim
        | some g' =>
          rw [o] at c z
          have c : x.w ≤ x.s + g' := c
          have z2 : g' < g := z.2
          omega
      · have := z.1; simp only at this; omega
  rw [e]
  congr 1
  omega
theorem low_none (F : Fin most gain T L) (hp : T[i]? = some (n, none)) : ∃ v, mxO (lowX L n) = .int v ∧ gain < v := by
  have w : (⟨n, n + gain + 1, true⟩ : En) ∈ L := F.wit i _ hp
  obtain ⟨v, e, hv, hm⟩ := mxO_of ((mem_low (s := n)).mpr ⟨_, w, rfl, Int.le_refl _, rfl⟩)
  have h1 := hm _ ((mem_low (s := n)).mpr ⟨_, w, rfl, Int.le_refl _, rfl⟩)
  simp only at h1
  exact ⟨v, e, by omega⟩
theorem ends_ge (F : Fin most gain T L) (hp : T[i]? = some (n, some g)) : n ≤ (ends most T).getD (i + 1) 0 := by
  have hl := len_of hp
  have pm := mem_of_get hp
  unfold ends
  rw [List.getD_eq_getElem?_getD]
  by_cases q : i + 1 < T.length
  · rw [List.getElem?_append_left (by simpa using q), List.getElem?_map, List.getElem?_eq_getElem q]
    have h := List.pairwise_iff_getElem.mp F.asc i (i + 1) hl q (by omega)
    have e : T[i] = (n, some g) := by
      rw [List.getElem?_eq_getElem hl] at hp
      exact Option.some.inj hp
    rw [e] at h
    show n ≤ T[i + 1].1 - 1
    have := h.1
    simp only at this
    omega
  · rw [List.getElem?_append_right (by simp; omega)]
    have : i + 1 - (T.map fun p => p.1 - 1).length = 0 := by simp; omega
    rw [this]
    exact (F.rng _ pm).2.1
theorem high_some (F : Fin most gain T L) (hp : T[i]? = some (n, some g)) : ∃ v, mnO (highX L ((ends most T).getD (i + 1) 0)) = .int v ∧ (if gain < v then gain else v) = g := by
  have w := (F.wit i _ hp).2
  have gn := ends_ge F hp
  have pm := mem_of_get hp
  have gg : g ≤ gain := ((F.rng _ pm).2.2 g rfl).2
  generalize (ends most T).getD (i + 1) 0 = E at w gn ⊢
  obtain ⟨v, e, hv, hm⟩ := mnO_of ((mem_high (s := E)).mpr ⟨_, w, rfl, Int.le_refl _, rfl⟩)
  have h1 := hm _ ((mem_high (s := E)).mpr ⟨_, w, rfl, Int.le_refl _, rfl⟩)
  simp only at h1
  obtain ⟨x, hx, hb, hs, rfl⟩ := mem_high.mp hv
  have h2 : g ≤ x.w - x.s - 1 := by
    have c : ¬ above T x.s x.w := fun z => by have := (F.cons x hx).mpr z; rw [hb] at this; cases this
    unfold above at c
    cases k : lastG T x.s with
    | none => have := lastG_none k _ pm; simp only at this; omega
    | some o =>
      rw [k] at c
      obtain ⟨p, hp', rfl, hps, hall⟩ := lastG_some F.asc k
      rcases hall _ pm (by simp only; omega) with z | z
      · rw [← z] at c
        have c : ¬ x.w ≤ x.s + g := c
        omega
      · cases o : p.2 with
        | none => rw [o] at c; exact absurd trivial c
        | some g' =>
          rw [o] at c z
          have c : ¬ x.w ≤ x.s + g' := c
          have z2 : g < g' := z.2
          omega
  refine ⟨_, e, ?_⟩
  split <;> omega
end
end K69
end

section
set_option Elab.async false
set_option linter.all false
set_option autoImplicit false
set_option maxRecDepth 100000
set_option maxHeartbeats 4000000
/-! k69, the plain side: only_right, follows. -/
namespace K69
open PySem AM L2 AP
local macro_rules | `(tactic| and_intros) => `(tactic| repeat (first | (with_reducible first | refine ok_seq ?_ | refine ok_ret ?_ | refine ok_set ?_ | refine ok_drop ?_ | refine ok_con ?_ | refine ok_nil ?_ | refine ok_cons ?_ | refine ok_args ?_ | refine ok_bin ?_ | refine ok_un ?_ | refine ok_tru ?_ | refine ok_notT ?_ | refine ok_cmp ?_ | refine ok_par ?_ | refine ok_for ?_ | refine ok_skip ?_ | refine ok_notC ?_ | refine ok_ifC ?_ | refine ok_call ?_) | ((with_reducible apply ok_var); exact rfl)))
section
variable {most gain : Int} {T : Tld} {L : List En} {M : AH} {g h : Nat}
theorem enum_map {α : Type} {f : α → AV} : ∀ (k : Nat) (L : List α) (x : AV) (xs : List AV), enumFrom k (L.map f) = x :: xs → ∃ a r, L = a :: r ∧ x = .tup [.int (k : Nat), f a] ∧ xs = enumFrom (k + 1) (r.map f)
  | k, [], x, xs, e => by cases e
  | k, a :: r, x, xs, e => by
    obtain ⟨rfl, rfl⟩ := List.cons.inj e
    exact ⟨a, r, rfl, rfl, rfl⟩
theorem orT_ff {a b : CT} {vs : AM.Loc} {M : AH} {Q : Bool → AH → Prop} (h : OkR (a vs M) fun k M1 => k = false ∧ OkR (b vs M1) fun k M2 => k = false ∧ Q false M2) : OkR (orT a b vs M) Q :=
  orT_f (h.imp fun k M1 ⟨e, q⟩ => ⟨e, q.imp fun k M2 ⟨e, q⟩ => by subst e; exact q⟩)
theorem only_ok (F : Fin most gain T L) (hg : M[g]? = some (.lst (L.map En.av))) (hl : L.length < 1000000) (hT : M[h]? = some (.lst (T.map tav))) (hl2 : T.length < 500000) :
    OkR (f_law_only_right [.val (.ref g), .val (.ref h), .val (.int most), .val (.int gain)] M) fun r M' => r = .bl true ∧ Grw M M' := by
  refine ok_fn (ok_seq (ok_set (ok_bin ?_)))
  refine ok_lcM (α := Int × Option Int) (L := T) (f := tav) (h := fun p => .int (p.1 - 1)) (var_eq rfl) hT (by omega) ?_ ?_
  · rintro ⟨n, o⟩ hp M' g'
    exact ⟨_, rfl, okv (a := .int (n - 1)) (M := M') rfl ⟨rfl, Grw.refl⟩⟩
  intro d M1 g1 hd hm
  refine ok_args (ok_cons (ok_var (a := .int most) rfl (ok_nil (okv (new_lst (by simp)) ?_))))
  refine okv (add_lst (app_get hm) (ys := [.int most]) (by simp) (by simp; omega)) ?_
  have hE : (M1 ++ [AO.lst [.int most]] ++ [AO.lst ((T.map fun p => AV.int (p.1 - 1)) ++ [.int most])])[(M1 ++ [AO.lst [.int most]]).length]? = some (.lst ((ends most T).map .int)) := by
    rw [List.getElem?_append_right (by omega)]
    simp [ends]
  have g2 : Grw M (M1 ++ [AO.lst [.int most]] ++ [AO.lst ((T.map fun p => AV.int (p.1 - 1)) ++ [.int most])]) := (g1.trans Grw.app).trans Grw.app
  generalize M1 ++ [AO.lst [.int most]] ++ [AO.lst ((T.map fun p => AV.int (p.1 - 1)) ++ [.int most])] = M2 at hE g2
  generalize (M1 ++ [AO.lst [.int most]]).length = e at hE
  show OkS (seqC _ _ [some (.val (.ref g)), some (.val (.ref h)), some (.val (.int most)), some (.val (.int gain)), some (.val (.ref e)), none, none, none, none, none, none] M2) _ _
  have ixE : ∀ (i : Nat) (M3 : AH), i ≤ T.length → Grw M2 M3 → opIx (.ref e) (.int i) M3 = .ok (.int ((ends most T).getD i 0)) M3 := by
    intro i M3 hi g3
    refine ix_at (g3.get _ _ hE) (atI_k ?_)
    have : i < (ends most T).length := by simp [ends]; omega
    rw [List.getElem?_map, List.getElem?_eq_getElem this, List.getD_eq_getElem?_getD, List.getElem?_eq_getElem this]
    rfl
  have ix0 : ∀ (M3 : AH) (vs : AM.Loc), Grw M2 M3 → vs[4]? = some (some (.val (.ref e))) → bin2 opIx (varC 4) (conC (.int 0)) vs M3 = .ok (.int ((ends most T).getD 0 0)) M3 := by
    intro M3 vs g3 hv
    unfold bin2
    rw [var_eq hv]
    exact ixE 0 M3 (by omega) g3
  have goal : ∀ M3, Grw M2 M3 → OkS ((seqC (forC (argsI enumA (consA (varC 1) nilA)) (tupG 2 (consG (nameG 6) (consG (tupG 2 (consG (nameG 7) (consG (nameG 8) nilG))) nilG)))
  (seqC (parC 9 10 (consA (callC 2 f_law_low_gain (consA (varC 0) (consA (varC 7) nilA))) (consA (callC 2 f_law_high_gain (consA (varC 0) (consA (bin2 opIx (varC 4) (bin2 opAdd (varC 6) (conC (.int 1)))) nilA))) nilA)))
  (seqC (ifS (orT (cmpT opIs (varC 9) (conC .non)) (andT (cmpT opIs (varC 8) (conC .non)) (cmpT opLe (varC 9) (varC 3))))
  (retC (conC (.bl false)))
  skipC)
  (ifS (andT (cmpT opIsN (varC 8) (conC .non)) (orT (cmpT (opNeY fns ws []) (varC 9) (varC 8)) (orT (cmpT opIs (varC 10) (conC .non)) (cmpT (opNeY fns ws []) (argsC min2A (consA (varC 10) (consA (varC 3) nilA))) (varC 8)))))
  (retC (conC (.bl false)))
  skipC))))
  (retC (conC (.bl true)))) [some (.val (.ref g)), some (.val (.ref h)), some (.val (.int most)), some (.val (.int gain)), some (.val (.ref e)), none, none, none, none, none, none] M3) (fun _ M' => AV.non = .bl true ∧ Grw M M') (fun r M' => r = .bl true ∧ Grw M M') := by
    intro M3 g3
    have hT3 := g3.get _ _ (g2.get _ _ hT)
    refine ok_seq (ok_for (OkR.bind (ok_cons (ok_var (a := .ref h) rfl (ok_nil (okv (enum_lst hT3) ?_))))))
    refine OkS.imp (ok_loop (T := fun r M' => r = .bl true ∧ Grw M M') (N := fun vs M' => Grw M3 M')
      (fun rest vs M' => ∃ k todo q6 q7 q8 q9 q10, T.drop k = todo ∧ rest = enumFrom k (todo.map tav) ∧ vs = [some (.val (.ref g)), some (.val (.ref h)), some (.val (.int most)), some (.val (.int gain)), some (.val (.ref e)), none, q6, q7, q8, q9, q10] ∧ Grw M3 M') ?ok ?step ?fin _ _ _ ⟨0, T, _, _, _, _, _, rfl, rfl, rfl, Grw.refl⟩) ?after (fun _ _ z => z)
    case ok =>
      rintro rest vs M' ⟨k, todo, q6, q7, q8, q9, q10, _, _, _, g4⟩
      exact it_ok (g4.get _ _ hT3)
    case fin =>
      rintro vs M' ⟨k, todo, q6, q7, q8, q9, q10, _, _, _, g4⟩
      exact g4
    case after =>
      intro vs M' g4
      exact ok_ret ⟨rfl, (g2.trans g3).trans g4⟩
    case step =>
      rintro x rest vs M' ⟨k, todo, q6, q7, q8, q9, q10, hk, hr, rfl, g4⟩
      obtain ⟨⟨n, o⟩, r, e1, rfl, rfl⟩ := enum_map k todo x rest hr.symm
      have kT : T[k]? = some (n, o) := by
        have := congrArg (·[0]?) (hk.trans e1)
        simpa using this
      have hkl := len_of kT
      show OkS (seqC _ _ [some (.val (.ref g)), some (.val (.ref h)), some (.val (.int most)), some (.val (.int gain)), some (.val (.ref e)), none, some (.val (.int (k : Nat))), some (.val (.int n)), some (.val (oav o)), q9, q10] M') _ _
      have hgM := g4.get _ _ (g3.get _ _ (g2.get _ _ hg))
      refine ok_seq (ok_par (ok_cons (ok_call (ok_cons (ok_var (a := .ref g) rfl (ok_cons (ok_var (a := .int n) rfl (ok_nil ⟨rfl, ?_⟩))))))))
      refine (low_ok hgM hl).imp ?_
      rintro r1 M5 ⟨rfl, g5⟩
      refine ok_cons (ok_call (ok_cons (ok_var (a := .ref g) rfl (ok_cons (ok_bin (ok_var (a := .ref e) rfl (okv (a := .int ((k + 1 : Nat) : Int)) (M := M5) rfl (okv (ixE (k + 1) M5 (by omega) ((g3.trans g4).trans g5)) (ok_nil ⟨rfl, ?_⟩)))))))))
      refine (high_ok (g5.get _ _ hgM) hl).imp ?_
      rintro r2 M6 ⟨rfl, g6⟩
      refine ok_nil ⟨_, _, rfl, ?_⟩
      show OkS (seqC _ _ [some (.val (.ref g)), some (.val (.ref h)), some (.val (.int most)), some (.val (.int gain)), some (.val (.ref e)), none, some (.val (.int (k : Nat))), some (.val (.int n)), some (.val (oav o)), some (.val (mxO (lowX L n))), some (.val (mnO (highX L ((ends most T).getD (k + 1) 0))))] M6) _ _
      have done : ∃ k' todo' q6 q7 q8 q9 q10, T.drop k' = todo' ∧ enumFrom (k + 1) (r.map tav) = enumFrom k' (todo'.map tav) ∧ [some (SV.val (.ref g)), some (.val (.ref h)), some (.val (.int most)), some (.val (.int gain)), some (.val (.ref e)), none, some (.val (.int (k : Nat))), some (.val (.int n)), some (.val (oav o)), some (.val (mxO (lowX L n))), some (.val (mnO (highX L ((ends most T).getD (k + 1) 0))))] = [some (.val (.ref g)), some (.val (.ref h)), some (.val (.int most)), some (.val (.int gain)), some (.val (.ref e)), none, q6, q7, q8, q9, q10] ∧ Grw M3 M6 := by
        refine ⟨k + 1, r, _, _, _, _, _, ?_, rfl, rfl, (g4.trans g5).trans g6⟩
        have := congrArg List.tail (hk.trans e1)
        simpa using this
      cases o with
      | none =>
        obtain ⟨v, e2, hv⟩ := low_none F kT
        rw [e2] at done ⊢
        refine ok_seq (if_f (orT_ff (okv (a := false) (M := M6) rfl ⟨rfl, andT_t (okv (a := true) (M := M6) rfl ⟨rfl, okv (a := decide (v ≤ gain)) (M := M6) rfl ⟨decide_eq_false (by omega), rfl, ok_skip ?_⟩⟩)⟩)))
        exact if_f (andT_f (okv (a := false) (M := M6) rfl ⟨rfl, rfl, ok_skip done⟩))
      | some v =>
        rw [low_some F kT] at done ⊢
        obtain ⟨u, e3, hu⟩ := high_some F kT
        rw [e3] at done ⊢
        refine ok_seq (if_f (orT_ff (okv (a := false) (M := M6) rfl ⟨rfl, andT_f (okv (a := false) (M := M6) rfl ⟨rfl, rfl, rfl, ok_skip ?_⟩)⟩)))
        have nn : opNeY fns ws [] (.int v) (.int v) M6 = .ok (.bl false) M6 := by rw [neY_int, opNe_int]; simp
        refine if_f (andT_t (okv (a := true) (M := M6) rfl ⟨rfl, orT_ff (ok_cmp (okv (a := .int v) (M := M6) rfl (okv (a := .int v) (M := M6) rfl (okv nn ⟨_, rfl, rfl, ?_⟩))))⟩))
        refine orT_ff (okv (a := false) (M := M6) rfl ⟨rfl, ok_cmp (okv (a := .int v) (M := M6) ?_ (okv (a := .int v) (M := M6) rfl (okv nn ⟨_, rfl, rfl, rfl, rfl, ok_skip done⟩)))⟩)
        show R.ok (AV.int (if gain < u then gain else u)) M6 = _
        rw [hu]
  have hgM := g2.get _ _ hg
  by_cases q : 0 ≤ (ends most T).getD 0 0
  · obtain ⟨v, e1, hv⟩ := ends_fst F q
    refine ok_seq (if_f (andT_t (ok_cmp (okv (ix0 M2 _ Grw.refl rfl) (okv (a := .int 0) (M := M2) rfl (okv (a := .bl (decide (0 ≤ (ends most T).getD 0 0))) (M := M2) rfl ⟨_, rfl, decide_eq_true q, ?_⟩))))))
    refine orT_ff (ok_cmp (ok_call (ok_cons (ok_var (a := .ref g) rfl (ok_cons (okv (ix0 M2 _ Grw.refl rfl) (ok_nil ⟨rfl, ?_⟩)))))))
    refine (high_ok hgM hl).imp ?_
    rintro r M3 ⟨rfl, g3⟩
    rw [e1]
    refine okv (a := .non) (M := M3) rfl (okv (a := .bl false) (M := M3) rfl ⟨_, rfl, rfl, ?_⟩)
    refine ok_cmp (ok_bin (okv (ix0 M3 _ g3 rfl) (ok_call (ok_cons (ok_var (a := .ref g) rfl (ok_cons (okv (ix0 M3 _ g3 rfl) (ok_nil ⟨rfl, ?_⟩))))))))
    refine (high_ok (g3.get _ _ hgM) hl).imp ?_
    rintro r M4 ⟨rfl, g4⟩
    rw [e1]
    refine okv (a := .int ((ends most T).getD 0 0 + v)) (M := M4) rfl (okv (a := .int 0) (M := M4) rfl (okv (a := .bl (decide (0 ≤ (ends most T).getD 0 0 + v))) (M := M4) rfl ⟨_, rfl, decide_eq_false (by omega), rfl, ok_skip ?_⟩))
    exact goal M4 (g3.trans g4)
  · refine ok_seq (if_f (andT_f (ok_cmp (okv (ix0 M2 _ Grw.refl rfl) (okv (a := .int 0) (M := M2) rfl (okv (a := .bl (decide (0 ≤ (ends most T).getD 0 0))) (M := M2) rfl ⟨_, rfl, decide_eq_false q, rfl, ok_skip ?_⟩))))))
    exact goal M2 Grw.refl
/-! ### no answer follows -/
theorem fol_ok {k : Nat} {e : En} (N : NF L) (hk : L[k]? = some e) (hg : M[g]? = some (.lst (L.map En.av))) (hl : L.length < 1000000) : OkR (f_law_follows [.val (.ref g), .val (.int (k : Nat))] M) fun r M' => r = .bl false ∧ Grw M M' := by
  have ix : opIx (.ref g) (.int (k : Nat)) M = .ok e.av M := ix_at hg (atI_k (by rw [List.getElem?_map, hk]; rfl))
  have f := N k e hk
  refine ok_fn (ok_seq (ok_then ?_))
  have ev (j : Int) (a : AV) (hh : opIx e.av (.int j) M = .ok a M) : bin2 opIx (bin2 opIx (varC 0) (varC 1)) (conC (.int j)) (startL 7 [.val (.ref g), .val (.int (k : Nat))]) M = .ok a M := by
    show ((opIx (.ref g) (.int (k : Nat)) M).bind fun a M2 => opIx a (.int j) M2) = _
    rw [ix]
    exact hh
  refine ok_cons (okv (ev 0 (.int e.s) rfl) (ok_cons (okv (ev 1 (.int e.w) rfl) (ok_cons (ok_sliceC (ok_var (a := .ref g) rfl (ok_noO (ok_someO (ok_var (a := .int (k : Nat)) rfl ⟨_, rfl, ?_⟩)))))))))
  have sl : opSl (.ref g) none (some ((k : Nat) : Int)) M = .ok (.ref M.length) (M ++ [.lst ((L.take k).map En.av)]) := by
    simp only [opSl, hg, newL, cut_to, List.map_take]
    rw [if_pos (by simp; unfold sizeLine; omega)]
  refine okv sl (ok_nil ?_)
  have ha : (M ++ [AO.lst ((L.take k).map En.av)])[M.length]? = some (.lst ((L.take k).map En.av)) := by simp
  have g1 : Grw M (M ++ [AO.lst ((L.take k).map En.av)]) := Grw.app
  generalize M ++ [AO.lst ((L.take k).map En.av)] = M1 at ha g1
  generalize M.length = a at ha
  have hl2 : (L.take k).length < 1000000 := by simp; omega
  show OkS (seqC _ _ [some (.val (.ref g)), some (.val (.int (k : Nat))), some (.val (.int e.s)), some (.val (.int e.w)), some (.val (.ref a)), none, none] M1) _ _
  refine ok_seq (ok_par (ok_cons (ok_call (ok_cons (ok_var (a := .ref a) rfl (ok_cons (ok_var (a := .int e.s) rfl (ok_nil ⟨rfl, ?_⟩))))))))
  refine (low_ok ha hl2).imp ?_
  rintro r1 M2 ⟨rfl, g2⟩
  refine ok_cons (ok_call (ok_cons (ok_var (a := .ref a) rfl (ok_cons (ok_var (a := .int e.s) rfl (ok_nil ⟨rfl, ?_⟩))))))
  refine (high_ok (g2.get _ _ ha) hl2).imp ?_
  rintro r2 M3 ⟨rfl, g3⟩
  refine ok_nil ⟨_, _, rfl, ok_ret ?_⟩
  have gg : Grw M M3 := (g1.trans g2).trans g3
  show OkR (orC _ _ [some (.val (.ref g)), some (.val (.int (k : Nat))), some (.val (.int e.s)), some (.val (.int e.w)), some (.val (.ref a)), some (.val (mxO (lowX (L.take k) e.s))), some (.val (mnO (highX (L.take k) e.s)))] M3) _
  have second : ∀ v, OkR ((andC (bin2 opIsN (varC 6) (conC .non)) (bin2 opLt (varC 6) (bin2 opSub (varC 3) (varC 2)))) [some (.val (.ref g)), some (.val (.int (k : Nat))), some (.val (.int e.s)), some (.val (.int e.w)), some (.val (.ref a)), v, some (.val (mnO (highX (L.take k) e.s)))] M3) fun r M' => r = .bl false ∧ Grw M M' := by
    intro v
    cases hx : highX (L.take k) e.s with
    | nil => exact andC_f (okv (a := .bl false) (M := M3) rfl ⟨rfl, rfl, gg⟩)
    | cons n ns =>
      obtain ⟨u, e1, hu, hm⟩ := mnO_of (xs := highX (L.take k) e.s) (y := n) (by rw [hx]; simp)
      rw [hx] at e1
      rw [e1]
      obtain ⟨x, h1, h2, h3, rfl⟩ := mem_high.mp hu
      have := f.2 x h1 h2 h3
      exact andC_t (okv (a := .bl true) (M := M3) rfl ⟨rfl, okv (a := .bl (decide (x.w - x.s - 1 < e.w - e.s))) (M := M3) rfl ⟨by rw [decide_eq_false (by omega)], gg⟩⟩)
  cases hx : lowX (L.take k) e.s with
  | nil => exact orC_f (andC_f (okv (a := .bl false) (M := M3) rfl ⟨rfl, rfl, second _⟩))
  | cons n ns =>
    obtain ⟨u, e1, hu, hm⟩ := mxO_of (xs := lowX (L.take k) e.s) (y := n) (by rw [hx]; simp)
    rw [hx] at e1
    rw [e1]
    obtain ⟨x, h1, h2, h3, rfl⟩ := mem_low.mp hu
    have := f.1 x h1 h2 h3
    exact orC_f (andC_t (okv (a := .bl true) (M := M3) rfl ⟨rfl, okv (a := .bl (decide (e.w - e.s ≤ x.w - x.s))) (M := M3) rfl ⟨by rw [decide_eq_false (by omega)], second _⟩⟩))
end
end K69
end

section
set_option Elab.async false
set_option linter.all false
set_option autoImplicit false
set_option maxRecDepth 100000
set_option maxHeartbeats 4000000
/-! k69, the plain side: boxes, halving. -/
namespace K69
open PySem AM L2 AP
local macro_rules | `(tactic| and_intros) => `(tactic| repeat (first | (with_reducible first | refine ok_seq ?_ | refine ok_ret ?_ | refine ok_set ?_ | refine ok_drop ?_ | refine ok_con ?_ | refine ok_nil ?_ | refine ok_cons ?_ | refine ok_args ?_ | refine ok_bin ?_ | refine ok_un ?_ | refine ok_tru ?_ | refine ok_notT ?_ | refine ok_cmp ?_ | refine ok_par ?_ | refine ok_for ?_ | refine ok_skip ?_ | refine ok_notC ?_ | refine ok_ifC ?_ | refine ok_call ?_) | ((with_reducible apply ok_var); exact rfl)))
theorem draw_is : f_law_draw = f_draw := rfl
theorem pick_is : f_law_pick = f_pick := rfl
/-- the log at g, the stream; what else stood at M0 stands -/
structure Lg (g s n c : Nat) (M0 : AH) (L : List En) (M : AH) : Prop where
  log : M[g]? = some (.lst (L.map En.av))
  st : Strm s n (c + L.length) M
  fr : FrX (fun i => i = g ∨ i = s ∨ i = n) M0 M
  ne1 : g ≠ s
  ne2 : g ≠ n
section
variable {g s n c : Nat} {M0 M : AH} {L : List En} {a b w bd : Int}
theorem Lg.ext {M' : AH} (h : Lg g s n c M0 L M) (k : Grw M M') : Lg g s n c M0 L M' := ⟨k.get _ _ h.log, h.st.ext k, h.fr.trans k.frX, h.ne1, h.ne2⟩
theorem Lg.base (h : Lg g s n c M0 L M) : Lg g s n c M L M := { h with fr := FrX.refl }
theorem set_last {xs : List AV} {x y : AV} : (xs ++ [x]).set ((xs ++ [x]).length - 1) y = xs ++ [y] := by
  have : (xs ++ [x]).length - 1 = xs.length := by simp
  rw [this]
  simp
theorem either {k : Int} {A B : CS} {vs : AM.Loc} {N : AM.Loc → AH → Prop} {T : AV → AH → Prop} (hv : vs[2]? = some (some (.val (.int w)))) (ha : OkS (A vs M) N T) (hb : OkS (B vs M) N T) : OkS (ifS (cmpT (opEqX fns ws []) (varC 2) (conC (.int k))) A B vs M) N T := by
  refine ok_if (ok_cmp (ok_var hv (okv (a := .int k) (M := M) rfl (okv (eqX_int.trans opEq_int) ⟨_, rfl, ?_⟩))))
  cases (w == k) with
  | true => exact ha
  | false => exact hb
theorem answer_ok (hl : M[g]? = some (.lst (L.map En.av ++ [AV.tup [.int a, .int b, .non]]))) (S : Strm s n c M) (hc : c < 2 ^ 40) (h1 : g ≠ s) (h2 : g ≠ n) (ha : 0 ≤ a) (ha2 : a < 1000000) (hL : L.length < 900000) :
    OkR (f_law_any_answer [.val (.ref g), .val (.ref s), .val (.int w), .val (.int bd)] M) fun r M' => ∃ t, r = .bl t ∧ M'[g]? = some (.lst ((L ++ [En.mk a b t]).map En.av)) ∧ Strm s n (c + 1) M' ∧ FrX (fun i => i = g ∨ i = s ∨ i = n) M M' := by
  refine ok_fn (ok_seq (ok_asg ?_))
  have ix : opIx (.ref g) (.int (-1)) M = .ok (AV.tup [.int a, .int b, .non]) M := ix_at hl (atI_last (by simp))
  have ev : bin2 opIx (varC 0) (un1 opNeg (conC (.int 1))) (startL 7 [.val (.ref g), .val (.ref s), .val (.int w), .val (.int bd)]) M = .ok (AV.tup [.int a, .int b, .non]) M := ix
  refine ok_sliceC (okv ev (ok_noO (ok_someO (okv (a := .int 2) (M := M) rfl ⟨2, rfl, okv (a := .tup [.int a, .int b]) (M := M) rfl ?_⟩))))
  show OkS (seqC _ _ [some (.val (.ref g)), some (.val (.ref s)), some (.val (.int w)), some (.val (.int bd)), some (.val (.int a)), some (.val (.int b)), none] M) _ _
  refine ok_seq (OkS.imp (N := fun vs M' => ∃ t, vs = [some (.val (.ref g)), some (.val (.ref s)), some (.val (.int w)), some (.val (.int bd)), some (.val (.int a)), some (.val (.int b)), some (.val (.bl t))] ∧ Strm s n (c + 1) M' ∧ Fr s n M M') (T := fun _ _ => False) ?_ ?_ fun _ _ z => z.elim)
  · have drawn : ∀ (m : Int), 0 < m → m < 2 ^ 60 → ∀ {op : AV → AV → AH → R AV}, (∀ d M', ∃ t, op (.int d) (.int 0) M' = .ok (.bl t) M') → OkS (asgC (bin2 op (callC 2 f_law_draw (consA (varC 1) (consA (conC (.int m)) nilA))) (conC (.int 0))) (nameG 6) [some (.val (.ref g)), some (.val (.ref s)), some (.val (.int w)), some (.val (.int bd)), some (.val (.int a)), some (.val (.int b)), none] M) (fun vs M' => ∃ t, vs = [some (.val (.ref g)), some (.val (.ref s)), some (.val (.int w)), some (.val (.int bd)), some (.val (.int a)), some (.val (.int b)), some (.val (.bl t))] ∧ Strm s n (c + 1) M' ∧ Fr s n M M') (fun _ _ => False) := by
      intro m m0 m1 op hop
      refine ok_set (ok_bin (ok_call (ok_cons (ok_var (a := .ref s) rfl (ok_cons (ok_con (ok_nil ⟨rfl, ?_⟩)))))))
      refine (draw_ok S hc m0 m1).imp ?_
      rintro r M' ⟨d, rfl, _, _, S', fr⟩
      obtain ⟨t, e⟩ := hop d M'
      exact okv (a := .int 0) (M := M') rfl (okv e ⟨t, rfl, S', fr⟩)
    have eqo : ∀ (d : Int) (M' : AH), ∃ t, opEqX fns ws [] (.int d) (.int 0) M' = .ok (.bl t) M' := fun d M' => ⟨_, eqX_int.trans opEq_int⟩
    have gto : ∀ (d : Int) (M' : AH), ∃ t, opGt (.int d) (.int 0) M' = .ok (.bl t) M' := fun d M' => ⟨_, rfl⟩
    refine either rfl (drawn 2 (by decide) (by decide) eqo) ?_
    refine either rfl (drawn 5 (by decide) (by decide) gto) ?_
    refine either rfl (drawn 5 (by decide) (by decide) eqo) ?_
    refine either rfl ?_ ?_
    · refine ok_set (ok_bin (ok_bin (ok_args (ok_cons (ok_var (a := .ref g) rfl (ok_nil (okv (len_lst hl) ?_)))))))
      refine okv (a := .int 2) (M := M) rfl (okv (a := .int (((L.map En.av ++ [AV.tup [.int a, .int b, .non]]).length : Int) % 2)) (M := M) rfl ?_)
      exact okv (a := .int 0) (M := M) rfl (okv (eqX_int.trans opEq_int) ⟨_, rfl, S.mono (by omega), Fr.refl⟩)
    · have lg : (2 : Int).natAbs.log2 + a.natAbs.log2 < 1000000 := by
        have a : a.natAbs.log2 < 60 := log2_lt (by omega) (by decide)
        have b : (2 : Int).natAbs.log2 < 60 := log2_lt (by decide) (by decide)
        omega
      have mm : opMul (.int 2) (.int a) M = .ok (.int (2 * a)) M := by
        show (if _ then _ else _) = _
        rw [if_pos lg]
      refine ok_set (ok_bin (ok_bin (ok_bin (ok_con (ok_var (a := .int a) rfl (okv mm ?_))))))
      exact okv (a := .int bd) (M := M) rfl (okv (a := .int (2 * a + bd)) (M := M) rfl (okv (a := .int b) (M := M) rfl (okv (a := .bl (decide (b ≤ 2 * a + bd))) (M := M) rfl ⟨_, rfl, S.mono (by omega), Fr.refl⟩)))
  · rintro vs M1 ⟨t, rfl, S1, fr1⟩
    have hl1 := fr1.get _ _ h1 h2 hl
    refine ok_seq (ok_asg (okv (a := .tup [.int a, .int b, .bl t]) (M := M1) rfl (ok_sub (ok_var (a := .ref g) rfl (okv (a := .int (-1)) (M := M1) rfl ?_)))))
    have pe : ixN (L.map En.av ++ [AV.tup [.int a, .int b, .non]]).length (-1) = some ((L.map En.av ++ [AV.tup [.int a, .int b, .non]]).length - 1) := by
      unfold ixN
      rw [if_neg (by omega), if_pos (by simp; omega)]
      congr 1
      simp
      omega
    refine okv (put_at hl1 pe) ?_
    rw [set_last]
    refine ok_ret (ok_var (a := .bl t) rfl ⟨t, rfl, ?_, S1.set h1 h2, ?_⟩)
    · rw [set_get hl1]
      simp [En.av]
    · exact (fr1.frX.mono (fun i z => z.elim (fun z => .inr (.inl z)) (fun z => .inr (.inr z)))).trans (FrX.set (.inl rfl))
theorem box_ok (h : Lg g s n c M0 L M) (hc : c + L.length < 2 ^ 40) (ha : 0 ≤ a) (ha2 : a < 1000000) (hL : L.length < 900000) :
    OkR (f_law_box [.val (.ref g), .val (.ref s), .val (.int w), .val (.int bd), .val (.int a), .val (.int b)] M) fun r M' => ∃ t, r = .bl t ∧ Lg g s n c M0 (L ++ [⟨a, b, t⟩]) M' := by
  refine ok_fn (ok_seq (ok_drop ?_))
  have ap := append_ok (y := .tup [.int a, .int b, .non]) h.log (by simp; unfold sizeLine; omega)
  have kd : kindA (.ref g) M = "list" := by simp [kindA, h.log]
  have E3 : methK (onT "list" mAppend) (varC 0) (consA (argsC tupA (consA (varC 4) (consA (varC 5) (consA (conC .non) nilA)))) nilA) (startL 6 [.val (.ref g), .val (.ref s), .val (.int w), .val (.int bd), .val (.int a), .val (.int b)]) M = .ok .non (M.set g (.lst (L.map En.av ++ [AV.tup [.int a, .int b, .non]]))) := by
    show (methK (onT "list" mAppend) (varC 0) _ [some (.val (.ref g)), _, _, _, _, _] M) = _
    have tt : consA (argsC tupA (consA (varC 4) (consA (varC 5) (consA (conC .non) nilA)))) nilA (startL 6 [.val (.ref g), .val (.ref s), .val (.int w), .val (.int bd), .val (.int a), .val (.int b)]) M = .ok [AV.tup [.int a, .int b, .non]] M := rfl
    unfold methK
    simp only [varC, List.getElem?_cons_zero, R.bind_ok, kd, onT, if_true]
    erw [tt]
    exact ap
  refine okv E3 ?_
  refine ok_ret (ok_call (ok_cons (ok_var (a := .ref g) rfl (ok_cons (ok_var (a := .ref s) rfl (ok_cons (ok_var (a := .int w) rfl (ok_cons (ok_var (a := .int bd) rfl (ok_nil ⟨rfl, ?_⟩))))))))))
  have lg1 : (M.set g (.lst (L.map En.av ++ [AV.tup [.int a, .int b, .non]])))[g]? = some (.lst (L.map En.av ++ [AV.tup [.int a, .int b, .non]])) := set_get h.log
  refine (answer_ok lg1 (h.st.set h.ne1 h.ne2) hc h.ne1 h.ne2 ha ha2 hL).imp ?_
  rintro r M' ⟨t, rfl, e, S, fr⟩
  refine ⟨t, rfl, e, ?_, (h.fr.trans (FrX.set (.inl rfl))).trans fr, h.ne1, h.ne2⟩
  have : c + (L ++ [En.mk a b t]).length = c + L.length + 1 := by simp; omega
  rw [this]
  exact S
end
/-- a box that was handed in -/
def BoxF (g s n c : Nat) (F : List AV → AH → R AV) : Prop := ∀ (M0 : AH) (L : List En) (M : AH) (a b : Int), Lg g s n c M0 L M → 0 ≤ a → a < 1000000 → L.length < 100000 → OkR (F [.int a, .int b] M) fun r M' => ∃ t, r = .bl t ∧ Lg g s n c M0 (L ++ [⟨a, b, t⟩]) M'
theorem said_ok {g s n c k : Nat} {F : List AV → AH → R AV} {M0 M : AH} {L : List En} {a b : Int} (B : BoxF g s n c F) (hk : k ≤ 5) (h : Lg g s n c M0 L M) (ha : 0 ≤ a) (ha2 : a < 1000000) (hL : L.length < 100000) :
    OkR (f_said [.clo k F, .val (.int a), .val (.int b)] M) fun r M' => ∃ t, r = .bl t ∧ Lg g s n c M0 (L ++ [⟨a, b, t⟩]) M' := by
  refine ok_fn (ok_seq (ok_set (ok_clo (k := k) (F := F) rfl hk (ok_cons (ok_var (a := .int a) rfl (ok_cons (ok_var (a := .int b) rfl (ok_nil ?_))))))))
  refine (B M0 L M a b h ha ha2 hL).imp ?_
  rintro r M' ⟨t, rfl, h'⟩
  refine ok_seq (if_f (okv (a := false) (M := M') rfl ⟨rfl, ok_skip (ok_ret (ok_var (a := .bl t) rfl ⟨t, rfl, h'⟩))⟩))
/-- halving -/
theorem first_ok {F : List AV → AH → R AV} {k : Nat} (J : Int → Int → Nat → AH → Prop) {lo hi : Int} {q B : Nat} {M : AH} (hk : k ≤ 7) (h : J lo hi q M) (hl : lo ≤ hi) (hh : hi - lo < 1000000) (hB : hi - lo + 1 ≤ 2 ^ B)
    (hs : ∀ lo' hi' q' M' m, J lo' hi' q' M' → lo ≤ lo' → hi' ≤ hi → lo' ≤ m → m < hi' → q' < q + B → OkR (F [.int m] M') fun r M2 => ∃ b, r = .bl b ∧ if b = true then J lo' m (q' + 1) M2 else J (m + 1) hi' (q' + 1) M2) :
    OkR (f_first_so [.val (.int lo), .val (.int hi), .clo k F] M) fun r M' => ∃ x q', r = .int x ∧ lo ≤ x ∧ x ≤ hi ∧ J x x q' M' ∧ ∀ K : Nat, hi - lo + 1 ≤ 2 ^ K → q' ≤ q + K := by
  refine ok_fn (ok_seq (ok_whileC (fun m vs M' => ∃ lo' hi' q' z, vs = [some (.val (.int lo')), some (.val (.int hi')), some (.clo k F), z] ∧ J lo' hi' q' M' ∧ lo ≤ lo' ∧ lo' ≤ hi' ∧ hi' ≤ hi ∧ (hi' - lo').toNat ≤ m ∧ ∀ K : Nat, hi - lo + 1 ≤ 2 ^ K → ∃ j : Nat, hi' - lo' + 1 ≤ 2 ^ j ∧ q' + j ≤ q + K) ?_ (n := (hi - lo).toNat) (by omega) ⟨lo, hi, q, none, rfl, h, Int.le_refl _, hl, Int.le_refl _, Nat.le_refl _, fun K hK => ⟨K, hK, Nat.le_refl _⟩⟩))
  rintro m vs M' ⟨lo', hi', q', z, rfl, hj, h1, h2, h3, h4, h5⟩
  refine okv (a := decide (lo' < hi')) (M := M') rfl ?_
  by_cases c : lo' < hi'
  · rw [if_pos (decide_eq_true c)]
    cases m with
    | zero => omega
    | succ m =>
      refine ⟨m, rfl, ?_⟩
      have dv : opDiv (.int (lo' + hi')) (.int 2) M' = .ok (.int ((lo' + hi') / 2)) M' := rfl
      refine ok_seq (ok_set (ok_bin (okv (a := .int (lo' + hi')) (M := M') rfl (okv (a := .int 2) (M := M') rfl (okv dv ?_)))))
      obtain ⟨mid, em⟩ : ∃ mid, mid = (lo' + hi') / 2 := ⟨_, rfl⟩
      rw [← em]
      show OkS (ifS _ _ _ [some (.val (.int lo')), some (.val (.int hi')), some (.clo k F), some (.val (.int mid))] M') _ _
      refine ok_if (ok_tru (ok_clo (k := k) (F := F) rfl hk (ok_cons (ok_var (a := .int mid) rfl (ok_nil ?_)))))
      obtain ⟨j0, hj0, hj1⟩ := h5 B hB
      have j0p : 0 < j0 := by
        cases j0 with
        | zero => simp at hj0; omega
        | succ j => omega
      refine (hs lo' hi' q' M' mid hj h1 h3 (by omega) (by omega) (by omega)).imp ?_
      rintro r M2 ⟨b, rfl, hb⟩
      have half : ∀ K : Nat, hi - lo + 1 ≤ 2 ^ K → ∃ j : Nat, mid - lo' + 1 ≤ 2 ^ j ∧ hi' - (mid + 1) + 1 ≤ 2 ^ j ∧ q' + 1 + j ≤ q + K := by
        intro K hK
        obtain ⟨j, e1, e2⟩ := h5 K hK
        cases j with
        | zero => simp at e1; omega
        | succ j =>
          refine ⟨j, ?_, ?_, by omega⟩
          · rw [Int.pow_succ] at e1; omega
          · rw [Int.pow_succ] at e1; omega
      refine okv (a := b) (M := M2) rfl ?_
      cases b with
      | true =>
        rw [if_pos rfl] at hb ⊢
        refine ok_set (ok_var (a := .int mid) rfl ⟨lo', mid, q' + 1, _, rfl, hb, h1, by omega, by omega, by omega, fun K hK => ?_⟩)
        obtain ⟨j, e1, e2, e3⟩ := half K hK
        exact ⟨j, e1, e3⟩
      | false =>
        rw [if_neg (by simp)] at hb ⊢
        refine ok_set (okv (a := .int (mid + 1)) (M := M2) rfl ⟨mid + 1, hi', q' + 1, _, rfl, hb, by omega, by omega, by omega, by omega, fun K hK => ?_⟩)
        obtain ⟨j, e1, e2, e3⟩ := half K hK
        exact ⟨j, e2, e3⟩
  · rw [if_neg (by simpa using c)]
    have e : hi' = lo' := by omega
    subst e
    refine ok_ret (ok_var (a := .int hi') rfl ⟨hi', q', rfl, h1, h3, hj, fun K hK => ?_⟩)
    obtain ⟨j, e1, e2⟩ := h5 K hK
    omega
end K69
end

section
set_option Elab.async false
set_option linter.all false
set_option autoImplicit false
set_option maxRecDepth 100000
set_option maxHeartbeats 4000000
/-! k69, the plain side: learned_stairs. -/
namespace K69
open PySem AM L2 AP
local macro_rules | `(tactic| and_intros) => `(tactic| repeat (first | (with_reducible first | refine ok_seq ?_ | refine ok_ret ?_ | refine ok_set ?_ | refine ok_drop ?_ | refine ok_con ?_ | refine ok_nil ?_ | refine ok_cons ?_ | refine ok_args ?_ | refine ok_bin ?_ | refine ok_un ?_ | refine ok_tru ?_ | refine ok_notT ?_ | refine ok_cmp ?_ | refine ok_par ?_ | refine ok_for ?_ | refine ok_skip ?_ | refine ok_notC ?_ | refine ok_ifC ?_ | refine ok_call ?_) | ((with_reducible apply ok_var); exact rfl)))
section
variable {g s n c k : Nat} {Fb : List AV → AH → R AV} {M0 M : AH} {L : List En} {most gain x l : Int} {F : List (Int × Int)}
theorem ph0 {G : List AV → AH → R AV} (B : BoxF g s n c Fb) (hk : k ≤ 5) (hG : ∀ (m : Int) (M' : AH), G [.int m] M' = f_said [.clo k Fb, .val (.int m), .val (.int 0)] M') (h : Lg g s n c M0 [] M) (hm : 0 ≤ most) (hm2 : most ≤ 1000) :
    OkR (f_first_so [.val (.int 0), .val (.int (most + 1)), .clo 7 G] M) fun r M' => ∃ x L, r = .int x ∧ P0 most x x L ∧ Lg g s n c M0 L M' ∧ ∀ K : Nat, most + 2 ≤ 2 ^ K → L.length ≤ K := by
  refine (first_ok (B := 12) (q := 0) (fun lo hi q M' => ∃ L, q = L.length ∧ P0 most lo hi L ∧ Lg g s n c M0 L M') (Nat.le_refl _) ⟨[], rfl, P0.start hm, h⟩ (by omega) (by omega) (by omega) ?_).imp ?_
  · rintro lo hi q M' m ⟨L, rfl, hp, hL⟩ l1 l2 l3 l4 l5
    rw [hG]
    have := hp.lo0
    refine (said_ok B hk hL (by omega) (by omega) (by omega)).imp ?_
    rintro r M2 ⟨t, rfl, h2⟩
    refine ⟨t, rfl, ?_⟩
    cases t with
    | true => exact ⟨_, by simp, hp.yesS l3 l4, h2⟩
    | false => exact ⟨_, by simp, hp.noS l3 l4, h2⟩
  · rintro r M' ⟨x, q, rfl, _, _, ⟨L, rfl, hp, hL⟩, hK⟩
    exact ⟨x, L, rfl, hp, hL, fun K hh => by have := hK K (by omega); omega⟩
theorem phA (B : BoxF g s n c Fb) (hk : k ≤ 5) (h : Lg g s n c M0 L M) (hd : Hd most gain F x l L) (hx : x ≤ most) (hm : most ≤ 1000) (hg : gain ≤ 1000) (hl : L.length < 50000) :
    OkR (f_out_with [.clo k Fb, .val (.int x), .val (.int l), .val (.int (x + gain + 1))] M) fun r M' => ∃ o L', r = .int o ∧ PA most gain F x l L o o L' ∧ Lg g s n c M0 L' M' ∧ ∀ K : Nat, most + gain + 2 ≤ 2 ^ K → L'.length ≤ L.length + K := by
  have x0 := hd.x0
  have l0 := hd.l0
  have hlg := hd.lg
  refine ok_fn (ok_ret (ok_callX (ok_consX (ok_var (a := .int l) rfl (ok_consX (ok_var (a := .int (x + gain + 1)) rfl (ok_consL (ok_nilX ⟨rfl, ?_⟩))))))))
  refine (first_ok (B := 12) (q := L.length) (fun lo hi q M' => ∃ L', q = L'.length ∧ PA most gain F x l L lo hi L' ∧ Lg g s n c M0 L' M') (Nat.le_refl _) ⟨L, rfl, hd.startA hx, h⟩ (by omega) (by omega) (by omega) ?_).imp ?_
  · rintro lo hi q M' m ⟨L', rfl, hp, hL⟩ l1 l2 l3 l4 l5
    show OkR (notC _ [some (.val (.int m)), some (.clo k Fb), some (.val (.int x))] M') _
    refine ok_notC (ok_callX (ok_consV rfl (ok_consX (ok_var (a := .int x) rfl (ok_consX (okv (a := .int (m + 1)) (M := M') rfl (ok_nilX ⟨rfl, ?_⟩)))))))
    refine (said_ok B hk hL (by omega) (by omega) (by omega)).imp ?_
    rintro r M2 ⟨t, rfl, h2⟩
    refine ⟨t, rfl, !t, rfl, ?_⟩
    cases t with
    | true => exact ⟨_, by simp, hp.yesS l3 l4, h2⟩
    | false => exact ⟨_, by simp, hp.noS l3 l4, h2⟩
  · rintro r M' ⟨o, q, rfl, _, _, ⟨L', rfl, hp, hL⟩, hK⟩
    exact ⟨o, L', rfl, hp, hL, fun K hh => hK K (by omega)⟩
theorem phB {gn : Int} (B : BoxF g s n c Fb) (hk : k ≤ 5) (h : Lg g s n c M0 L M) (hb : PB most gain F x gn (x + 1) (most + 1) L) (hm : most ≤ 1000) (hl : L.length < 50000) :
    OkR (f_need_behind [.clo k Fb, .val (.int x), .val (.int gn), .val (.int most)] M) fun r M' => ∃ y L', r = .int y ∧ PB most gain F x gn y y L' ∧ Lg g s n c M0 L' M' ∧ ∀ K : Nat, most + 2 ≤ 2 ^ K → L'.length ≤ L.length + K := by
  have x0 := hb.x0
  have xm := hb.xm
  refine ok_fn (ok_ret (ok_callX (ok_consX (okv (a := .int (x + 1)) (M := M) rfl (ok_consX (okv (a := .int (most + 1)) (M := M) rfl (ok_consL (ok_nilX ⟨rfl, ?_⟩))))))))
  refine (first_ok (B := 12) (q := L.length) (fun lo hi q M' => ∃ L', q = L'.length ∧ PB most gain F x gn lo hi L' ∧ Lg g s n c M0 L' M') (Nat.le_refl _) ⟨L, rfl, hb, h⟩ (by omega) (by omega) (by omega) ?_).imp ?_
  · rintro lo hi q M' m ⟨L', rfl, hp, hL⟩ l1 l2 l3 l4 l5
    show OkR (callX 3 f_said (consV 1 (consX (varC 0) (consX (bin2 opAdd (bin2 opAdd (varC 0) (varC 2)) (conC (.int 1))) nilX))) [some (.val (.int m)), some (.clo k Fb), some (.val (.int gn))] M') _
    refine ok_callX (ok_consV rfl (ok_consX (ok_var (a := .int m) rfl (ok_consX (okv (a := .int (m + gn + 1)) (M := M') rfl (ok_nilX ⟨rfl, ?_⟩))))))
    refine (said_ok B hk hL (by omega) (by omega) (by omega)).imp ?_
    rintro r M2 ⟨t, rfl, h2⟩
    refine ⟨t, rfl, ?_⟩
    cases t with
    | true => exact ⟨_, by simp, hp.yesS l3 l4, h2⟩
    | false => exact ⟨_, by simp, hp.noS l3 l4, h2⟩
  · rintro r M' ⟨y, q, rfl, _, _, ⟨L', rfl, hp, hL⟩, hK⟩
    exact ⟨y, L', rfl, hp, hL, fun K hh => hK K (by omega)⟩
theorem isn_ok {i : Int} (h : 0 ≤ i) : f_is_number [.val (.int i)] M = .ok (.bl true) M := by
  have : f_is_number [.val (.int i)] M = .ok (.bl (decide (0 ≤ i))) M := rfl
  rw [this, decide_eq_true h]
def LDone (g s n c : Nat) (most gain : Int) (M : AH) (r : AV) (M' : AH) : Prop := ∃ d T L, r = .ref d ∧ M'[d]? = some (.lst (T.map tav)) ∧ M.length ≤ d ∧ Fin most gain T L ∧ Lg g s n c M L M' ∧ T.length ≤ 2000 ∧ L.length < 100000 ∧
  ∀ K1 K2 : Nat, most + 2 ≤ 2 ^ K1 → most + gain + 2 ≤ 2 ^ K2 → L.length ≤ (T.length + 1) * K1 + T.length * K2
theorem learned_ok (B : BoxF g s n c Fb) (hk : k ≤ 5) (h : Lg g s n c M [] M) (hm : 0 ≤ most) (hm2 : most ≤ 1000) (hg : 0 ≤ gain) (hg2 : gain ≤ 1000) (lts : s < M.length) (ltn : n < M.length) :
    OkR (f_learned_stairs [.clo k Fb, .val (.int most), .val (.int gain)] M) (LDone g s n c most gain M) := by
  have ltg := get_lt h.log
  refine ok_fn (ok_seq (if_f (ok_notT (ok_tru (ok_call (ok_cons (ok_var (a := .int most) rfl (ok_nil ⟨rfl, okv (isn_ok hm) (okv (a := true) (M := M) rfl ⟨rfl, ok_skip ?_⟩)⟩))))))))
  refine ok_seq (if_f (ok_notT (ok_tru (ok_call (ok_cons (ok_var (a := .int gain) rfl (ok_nil ⟨rfl, okv (isn_ok hg) (okv (a := true) (M := M) rfl ⟨rfl, ok_skip ?_⟩)⟩)))))))
  refine ok_seq (ok_par (ok_cons (ok_args (ok_nil (okv (new_lst (by simp)) (ok_cons (ok_con (ok_nil ⟨_, _, rfl, ?_⟩))))))))
  have hf : (M ++ [AO.lst []])[M.length]? = some (.lst ((tld []).map tav)) := by simp [tld]
  have hL0 : Lg g s n c M [] (M ++ [AO.lst []]) := h.ext Grw.app
  generalize hM1 : M ++ [AO.lst []] = M1 at hf hL0
  have ff : M.length ≤ M.length := Nat.le_refl _
  have ltf := get_lt hf
  obtain ⟨f, ef⟩ : ∃ f, f = M.length := ⟨_, rfl⟩
  rw [← ef] at hf ltf
  have ff : M.length ≤ f := by omega
  show OkS (seqC _ _ [some (.clo k Fb), some (.val (.int most)), some (.val (.int gain)), some (.val (.ref M.length)), some (.val (.int 0)), none, none, none, none] M1) _ _
  rw [← ef]
  have fne : ∀ i, (i = g ∨ i = s ∨ i = n) → i ≠ f := by omega
  refine ok_seq (ok_set (ok_callX (ok_consX (ok_con (ok_consX (okv (a := .int (most + 1)) (M := M1) rfl (ok_consL (ok_nilX ⟨rfl, ?_⟩))))))))
  refine (ph0 (M0 := M1) B hk (fun m M' => ?_) hL0.base hm hm2).imp ?_
  · rfl
  rintro r M2 ⟨x, L, rfl, hp, hL2, hK⟩
  have hf2 : M2[f]? = some (.lst ((tld []).map tav)) := hL2.fr.get _ _ (fun z => fne f z rfl) hf
  have hLg : Lg g s n c M L M2 := { hL2 with fr := hL0.fr.trans hL2.fr }
  show OkS (seqC _ _ [some (.clo k Fb), some (.val (.int most)), some (.val (.int gain)), some (.val (.ref f)), some (.val (.int 0)), some (.val (.int x)), none, none, none] M2) _ _
  have twelve : ∀ {L : List En} {m : Nat}, m ≤ 1001 → (∀ K1 K2 : Nat, most + 2 ≤ 2 ^ K1 → most + gain + 2 ≤ 2 ^ K2 → L.length ≤ K1 + m * (K1 + K2)) → L.length < 30000 := by
    intro L m hm1 hh
    have := hh 12 12 (by omega) (by omega)
    omega
  refine ok_seq (OkS.imp (ok_whileC (T := LDone g s n c most gain M) (N := LDone g s n c most gain M (.ref f) |> fun P => fun vs M' => P M' ∧ vs[3]? = some (some (.val (.ref f))))
    (fun m vs M' => ∃ (F : List (Int × Int)) (x l : Int) (L : List En) (q6 q7 q8 : Option SV), vs = [some (.clo k Fb), some (.val (.int most)), some (.val (.int gain)), some (.val (.ref f)), some (.val (.int l)), some (.val (.int x)), q6, q7, q8] ∧ Hd most gain F x l L ∧ Lg g s n c M L M' ∧ M'[f]? = some (.lst ((tld F).map tav)) ∧ (F.length : Int) ≤ x ∧ (most + 1 - x).toNat ≤ m ∧ ∀ K1 K2 : Nat, most + 2 ≤ 2 ^ K1 → most + gain + 2 ≤ 2 ^ K2 → L.length ≤ K1 + F.length * (K1 + K2)) ?_ (n := (most + 1).toNat) (by omega)
    ⟨[], x, 0, L, none, none, none, rfl, hp.head hm hg, hLg, hf2, (by have := hp.lo0; simpa using this), (by have := hp.lo0; omega), fun K1 K2 h1 _ => by have := hK K1 h1; simp; omega⟩) (fun vs M' ⟨P, e⟩ => ok_ret (ok_var e P)) fun _ _ z => z)
  rintro m vs M' ⟨F, x, l, L, q6, q7, q8, rfl, hd, hL, hf', hF, hme, hcnt⟩
  have x0 := hd.x0
  have xm := hd.xm
  have lb : L.length < 30000 := twelve (m := F.length) (by omega) hcnt
  refine okv (a := decide (x ≤ most)) (M := M') rfl ?_
  by_cases c1 : x ≤ most
  · rw [if_pos (decide_eq_true c1)]
    cases m with
    | zero => omega
    | succ m =>
      refine ⟨m, rfl, ?_⟩
      refine ok_seq (ok_set (okv (a := .int (x + gain + 1)) (M := M') rfl ?_))
      refine ok_seq (ok_set (ok_callX (ok_consV rfl (ok_consX (ok_var (a := .int x) rfl (ok_consX (ok_var (a := .int l) rfl (ok_consX (ok_var (a := .int (x + gain + 1)) rfl (ok_nilX ⟨rfl, ?_⟩))))))))))
      refine (phA (M0 := M') B hk hL.base hd c1 hm2 hg2 (by omega)).imp ?_
      rintro r M3 ⟨o, L3, rfl, hA, hL3, hK3⟩
      have hf3 := hL3.fr.get _ _ (fun z => fne f z rfl) hf'
      have hLg3 : Lg g s n c M L3 M3 := { hL3 with fr := hL.fr.trans hL3.fr }
      have lb3 : L3.length ≤ L.length + 12 := hK3 12 (by omega)
      show OkS (seqC _ _ [some (.clo k Fb), some (.val (.int most)), some (.val (.int gain)), some (.val (.ref f)), some (.val (.int l)), some (.val (.int x)), some (.val (.int (x + gain + 1))), some (.val (.int o)), q8] M3) _ _
      refine ok_seq (ok_if (ok_cmp (ok_var (a := .int o) rfl (ok_var (a := .int (x + gain + 1)) rfl (okv opEq_int ⟨_, rfl, ?_⟩)))))
      by_cases c2 : o = x + gain + 1
      · rw [if_pos (by simpa using c2)]
        subst c2
        have tt : argsC tupA (consA (varC 5) (consA (conC .non) nilA)) [some (.clo k Fb), some (.val (.int most)), some (.val (.int gain)), some (.val (.ref f)), some (.val (.int l)), some (.val (.int x)), some (.val (.int (x + gain + 1))), some (.val (.int (x + gain + 1))), q8] M3 = .ok (tav (x, none)) M3 := rfl
        refine ok_ret (ok_bin (ok_var (a := .ref f) rfl (ok_args (ok_cons (okv tt (ok_nil (okv (new_lst (by simp)) ?_)))))))
        have hlen : (tld F).length = F.length := by simp [tld]
        refine okv (add_lst (app_get hf3) (ys := [tav (x, none)]) (by simp) (by simp [hlen]; omega)) ?_
        refine ⟨_, tld F ++ [(x, none)], L3, rfl, by simp, ?_, hA.fin, (hLg3.ext Grw.app).ext Grw.app, by simp [hlen]; omega, by omega, fun K1 K2 h1 h2 => ?_⟩
        · have := hLg3.fr.len
          simp
          omega
        · have a1 := hcnt K1 K2 h1 h2
          have a2 := hK3 K2 h2
          simp only [List.length_append, hlen, List.length_cons, List.length_nil]
          generalize hq : F.length = q at a1 ⊢
          have e1 : (q + (0 + 1) + 1) * K1 + (q + (0 + 1)) * K2 = K1 + q * (K1 + K2) + K1 + K2 := by
            simp only [Nat.add_mul, Nat.mul_add]; omega
          omega
      · rw [if_neg (by simpa using c2)]
        have hB := hA.startB c2
        have ap := append_ok (y := tav (x, some (o - x))) hf3 (by simp [tld]; unfold sizeLine; omega)
        have kd : kindA (.ref f) M3 = "list" := by simp [kindA, hf3]
        have E3 : methK (onT "list" mAppend) (varC 3) (consA (argsC tupA (consA (varC 5) (consA (bin2 opSub (varC 7) (varC 5)) nilA))) nilA) [some (.clo k Fb), some (.val (.int most)), some (.val (.int gain)), some (.val (.ref f)), some (.val (.int l)), some (.val (.int x)), some (.val (.int (x + gain + 1))), some (.val (.int o)), q8] M3 = .ok .non (M3.set f (.lst ((tld F).map tav ++ [tav (x, some (o - x))]))) := by
          have tt : consA (argsC tupA (consA (varC 5) (consA (bin2 opSub (varC 7) (varC 5)) nilA))) nilA [some (.clo k Fb), some (.val (.int most)), some (.val (.int gain)), some (.val (.ref f)), some (.val (.int l)), some (.val (.int x)), some (.val (.int (x + gain + 1))), some (.val (.int o)), q8] M3 = .ok [tav (x, some (o - x))] M3 := rfl
          have v3 : varC 3 [some (.clo k Fb), some (.val (.int most)), some (.val (.int gain)), some (.val (.ref f)), some (.val (.int l)), some (.val (.int x)), some (.val (.int (x + gain + 1))), some (.val (.int o)), q8] M3 = .ok (.ref f) M3 := rfl
          unfold methK
          simp only [v3, R.bind_ok, kd, onT, if_true, tt]
          exact ap
        refine ok_skip (ok_seq (ok_drop (okv E3 ?_)))
        have hf4 : (M3.set f (.lst ((tld F).map tav ++ [tav (x, some (o - x))])))[f]? = some (.lst ((tld (F ++ [(x, o - x)])).map tav)) := by
          rw [set_get hf3, tld_snoc]
          simp
        have hLg4 : Lg g s n c M L3 (M3.set f (.lst ((tld F).map tav ++ [tav (x, some (o - x))]))) :=
          ⟨by rw [set_ne (fun e => fne g (.inl rfl) e.symm)]; exact hLg3.log, hLg3.st.set (fun e => fne s (.inr (.inl rfl)) e.symm) (fun e => fne n (.inr (.inr rfl)) e.symm), hLg3.fr.fresh ff, hLg3.ne1, hLg3.ne2⟩
        generalize M3.set f (.lst ((tld F).map tav ++ [tav (x, some (o - x))])) = M4 at hf4 hLg4
        refine ok_seq (ok_set (ok_callX (ok_consV rfl (ok_consX (ok_var (a := .int x) rfl (ok_consX (okv (a := .int (o - x)) (M := M4) rfl (ok_consX (ok_var (a := .int most) rfl (ok_nilX ⟨rfl, ?_⟩))))))))))
        refine (phB (M0 := M4) B hk hLg4.base hB hm2 (by omega)).imp ?_
        rintro r M5 ⟨y, L5, rfl, hB5, hL5, hK5⟩
        have hf5 := hL5.fr.get _ _ (fun z => fne f z rfl) hf4
        have hLg5 : Lg g s n c M L5 M5 := { hL5 with fr := hLg4.fr.trans hL5.fr }
        have b1 := hB5.b1
        refine ok_seq (ok_set (okv (a := .int (y + o - x + 1)) (M := M5) rfl (ok_set (ok_var (a := .int y) rfl ?_))))
        have el : y + o - x + 1 = y + (o - x) + 1 := by omega
        rw [el]
        refine ⟨F ++ [(x, o - x)], y, y + (o - x) + 1, L5, _, _, _, rfl, hB5.head, hLg5, hf5, by simp; omega, by omega, fun K1 K2 h1 h2 => ?_⟩
        have a1 := hcnt K1 K2 h1 h2
        have a2 := hK3 K2 h2
        have a3 := hK5 K1 h1
        simp only [List.length_append, List.length_cons, List.length_nil]
        generalize hq : F.length = q at a1 ⊢
        have e1 : K1 + (q + (0 + 1)) * (K1 + K2) = K1 + q * (K1 + K2) + K1 + K2 := by
          simp only [Nat.add_mul, Nat.mul_add]; omega
        omega
  · rw [if_neg (by simpa using c1)]
    have hlen : (tld F).length = F.length := by simp [tld]
    refine ⟨⟨f, tld F, L, rfl, hf', ff, hd.fin (by omega), hL, by rw [hlen]; omega, by omega, fun K1 K2 h1 h2 => ?_⟩, rfl⟩
    have a1 := hcnt K1 K2 h1 h2
    rw [hlen]
    generalize F.length = q at a1 ⊢
    have e1 : (q + 1) * K1 + q * K2 = K1 + q * (K1 + K2) := by
      simp only [Nat.add_mul, Nat.mul_add]; omega
    omega
end
end K69
end

section
set_option Elab.async false
set_option linter.all false
set_option autoImplicit false
set_option maxRecDepth 100000
set_option maxHeartbeats 4000000
/-! k69, the plain side: the law's same (turned from k01). -/
namespace K69
open PySem AM L2 AP
local macro_rules | `(tactic| and_intros) => `(tactic| repeat (first | (with_reducible first | refine ok_seq ?_ | refine ok_ret ?_ | refine ok_set ?_ | refine ok_drop ?_ | refine ok_con ?_ | refine ok_nil ?_ | refine ok_cons ?_ | refine ok_args ?_ | refine ok_bin ?_ | refine ok_un ?_ | refine ok_tru ?_ | refine ok_notT ?_ | refine ok_cmp ?_ | refine ok_par ?_ | refine ok_for ?_ | refine ok_skip ?_ | refine ok_notC ?_ | refine ok_ifC ?_ | refine ok_call ?_) | ((with_reducible apply ok_var); exact rfl)))
def LT : AV := .tup [.ty "list", .ty "tuple"]
theorem isA_of {v : AV} {M : AH} {t : AT} {b : Bool} {c : AV} (h : tyA fns ws M v = some t) (e : isCls ws t c = some b) : isA fns ws [v, c] M = .ok (.bl b) M := by
  unfold isA
  simp only [h, e]
theorem isA2_tup {v : AV} {M : AH} {t : AT} {b : Bool} {cs : List AV} (h : tyA fns ws M v = some t) (e : isCls ws t (.tup cs) = some b) : isA2 fns ws [v, .tup cs] M = .ok (.bl b) M := isA_of h e
theorem isA2_ty {v : AV} {M : AH} {t : AT} {b : Bool} {y : String} (h : tyA fns ws M v = some t) (e : isCls ws t (.ty y) = some b) : isA2 fns ws [v, .ty y] M = .ok (.bl b) M := isA_of h e
theorem lt_ok {v : AV} {M : AH} {vs : AM.Loc} {i : Nat} {t : AT} {b : Bool} (hv : vs[i]? = some (some (.val v))) (h : tyA fns ws M v = some t) (e : isCls ws t LT = some b) :
    argsC (isA2 fns ws) (consA (varC i) (consA (argsC tupA (consA (conC (.ty "list")) (consA (conC (.ty "tuple")) nilA))) nilA)) vs M = .ok (.bl b) M := by
  have v1 : varC i vs M = .ok v M := by unfold varC; rw [hv]
  have tt : tupA [.ty "list", .ty "tuple"] M = .ok LT M := by unfold tupA; exact if_pos (by decide)
  have a : consA (varC i) (consA (argsC tupA (consA (conC (.ty "list")) (consA (conC (.ty "tuple")) nilA))) nilA) vs M = .ok [v, LT] M := by
    simp only [consA, argsC, nilA, conC, v1, R.bind_ok, tt]
  show (consA (varC i) (consA (argsC tupA (consA (conC (.ty "list")) (consA (conC (.ty "tuple")) nilA))) nilA) vs M).bind (isA2 fns ws) = _
  rw [a, R.bind_ok]
  exact isA2_tup h e
def LTD : AV := .tup [.ty "list", .ty "tuple", .ty "dict"]
theorem ltd_ok {v : AV} {M : AH} {vs : AM.Loc} {i : Nat} {t : AT} {b : Bool} (hv : vs[i]? = some (some (.val v))) (h : tyA fns ws M v = some t) (e : isCls ws t LTD = some b) :
    argsC (isA2 fns ws) (consA (varC i) (consA (argsC tupA (consA (conC (.ty "list")) (consA (conC (.ty "tuple")) (consA (conC (.ty "dict")) nilA)))) nilA)) vs M = .ok (.bl b) M := by
  have v1 : varC i vs M = .ok v M := by unfold varC; rw [hv]
  have tt : tupA [.ty "list", .ty "tuple", .ty "dict"] M = .ok LTD M := by unfold tupA; exact if_pos (by simp; unfold sizeLine; decide)
  have a : consA (varC i) (consA (argsC tupA (consA (conC (.ty "list")) (consA (conC (.ty "tuple")) (consA (conC (.ty "dict")) nilA)))) nilA) vs M = .ok [v, LTD] M := by
    simp only [consA, argsC, nilA, conC, v1, R.bind_ok, tt]
  show (consA (varC i) (consA (argsC tupA (consA (conC (.ty "list")) (consA (conC (.ty "tuple")) (consA (conC (.ty "dict")) nilA)))) nilA) vs M).bind (isA2 fns ws) = _
  rw [a, R.bind_ok]
  exact isA2_tup h e
theorem isa_ok {v : AV} {M : AH} {vs : AM.Loc} {i : Nat} {t : AT} {b : Bool} {y : String} (hv : vs[i]? = some (some (.val v))) (h : tyA fns ws M v = some t) (e : isCls ws t (.ty y) = some b) :
    argsC (isA2 fns ws) (consA (varC i) (consA (conC (.ty y)) nilA)) vs M = .ok (.bl b) M := by
  have v1 : varC i vs M = .ok v M := by unfold varC; rw [hv]
  have a : consA (varC i) (consA (conC (.ty y)) nilA) vs M = .ok [v, .ty y] M := by
    simp only [consA, nilA, conC, v1, R.bind_ok]
  show (consA (varC i) (consA (conC (.ty y)) nilA) vs M).bind (isA2 fns ws) = _
  rw [a, R.bind_ok]
  exact isA2_ty h e
mutual
/-- v and w are the same for _law_same, to k steps down -/
inductive Sm (M : AH) : Nat → AV → AV → Prop
  | sc {k : Nat} {v : AV} {t : AT} {b : Bool} : (∀ M', Grw M M' → tyA fns ws M' v = some t) → isCls ws t LT = some false → isCls ws t (.ty "dict") = some false → isCls ws t (.ty "bool") = some b → isCls ws t LTD = some false →
      (∀ M', Grw M M' → opEqX fns ws [] v v M' = .ok (.bl true) M') → Sm M (k + 1) v v
  | dct {k i : Nat} : M[i]? = some (.dct []) → Sm M (k + 2) (.ref i) (.ref i)
  | tup {k : Nat} {xs ys : List AV} : xs.length < 1000000 → SmL M k xs ys → Sm M (k + 1) (.tup xs) (.tup ys)
  | lst {k i j : Nat} {xs ys : List AV} : xs.length < 1000000 → M[i]? = some (.lst xs) → M[j]? = some (.lst ys) → SmL M k xs ys → Sm M (k + 1) (.ref i) (.ref j)
inductive SmL (M : AH) : Nat → List AV → List AV → Prop
  | nil {k : Nat} : SmL M k [] []
  | cons {k : Nat} {x y : AV} {xs ys : List AV} : Sm M k x y → SmL M k xs ys → SmL M k (x :: xs) (y :: ys)
end
theorem SmL.all {M : AH} {k : Nat} : ∀ {xs ys : List AV}, SmL M k xs ys → All2 (Sm M k) xs ys
  | _, _, .nil => .nil
  | _, _, .cons h t => .cons h (SmL.all t)
theorem same_sc {k : Nat} {v : AV} {t : AT} {b : Bool} {M : AH} (h : tyA fns ws M v = some t) (e1 : isCls ws t LT = some false) (e2 : isCls ws t (.ty "dict") = some false) (e3 : isCls ws t (.ty "bool") = some b) (e4 : isCls ws t LTD = some false)
    (he : opEqX fns ws [] v v M = .ok (.bl true) M) : OkR (f_law_same (k + 1) [.val v, .val v] M) fun r M' => r = .bl true ∧ Grw M M' := by
  refine ok_fn (ok_seq (if_f (ok_tru (okv (lt_ok (v := v) rfl h e1) (okv (a := false) (M := M) rfl ⟨rfl, ?_⟩)))))
  refine ok_skip (ok_seq (if_f (ok_tru (okv (isa_ok (v := v) rfl h e2) (okv (a := false) (M := M) rfl ⟨rfl, ?_⟩)))))
  refine ok_skip (ok_seq (ok_if (ok_orT (ok_tru (okv (isa_ok (v := v) rfl h e3) (okv (a := b) (M := M) rfl ?_))))))
  cases b with
  | true =>
    refine ok_ret (andC_t (okv (isa_ok (v := v) rfl h e3) ⟨rfl, andC_t (okv (isa_ok (v := v) rfl h e3) ⟨rfl, ?_⟩)⟩))
    and_intros
    exact okv he ⟨rfl, Grw.refl⟩
  | false =>
    refine ok_tru (okv (isa_ok (v := v) rfl h e3) (okv (a := false) (M := M) rfl ?_))
    refine ok_skip (ok_ret (andC_t (ok_notC (okv (ltd_ok (v := v) rfl h e4) ⟨_, rfl, rfl, ?_⟩))))
    and_intros
    exact okv he ⟨rfl, Grw.refl⟩
theorem same_seq {s n k : Nat} {a b : AV} {xs ys : List AV} {M : AH} (I : Its s n a xs M) (J : Its s n b ys M) (ht : isT a = isT b) (hl : xs.length < 1000000)
    (h2 : All2 (fun x y => ∀ M', Grw M M' → OkR (f_law_same k [.val x, .val y] M') fun r M2 => r = .bl true ∧ Grw M' M2) xs ys) : OkR (f_law_same (k + 1) [.val a, .val b] M) fun r M' => r = .bl true ∧ Grw M M' := by
  have tt : ∃ t, tyA fns ws M a = some t ∧ tyA fns ws M b = some t ∧ isCls ws t LT = some true ∧ ∃ l u, isCls ws t (.ty "list") = some l ∧ isCls ws t (.ty "tuple") = some u := by
    rcases I with rfl | ⟨i, rfl, _, _, g⟩ <;> rcases J with rfl | ⟨j, rfl, _, _, g2⟩
    · exact ⟨.tup, rfl, rfl, rfl, _, _, rfl, rfl⟩
    · cases ht
    · cases ht
    · exact ⟨.lst, by simp [tyA, g], by simp [tyA, g2], rfl, _, _, rfl, rfl⟩
  obtain ⟨t, t1, t2, t3, l, u, e1, e2⟩ := tt
  refine ok_fn (ok_seq (if_t (ok_tru (okv (lt_ok (v := b) rfl t2 t3) (okv (a := true) (M := M) rfl ⟨rfl, ?_⟩)))))
  have ne (b : Bool) : opNeY fns ws [] (.bl b) (.bl b) M = .ok (.bl false) M := by
    show opNe (.bl b) (.bl b) M = _
    have d : datS M (.bl b) = some (.bool b) := by
      have s : SeqAt.shaped (.bool b) = true := by simp [SeqAt.shaped, PyData.canLay0, PyData.depth]
      show (if SeqAt.shaped (.bool b) = true then some (PyData.bool b) else none) = _
      rw [if_pos s]
    unfold opNe
    rw [d]
    simp [PyData.eqv]
  refine ok_seq (if_f (orT_f (ok_cmp (okv (isa_ok (v := a) rfl t1 e1) (okv (isa_ok (v := b) rfl t2 e1) (okv (ne l) ⟨_, rfl, rfl, ?_⟩))))))
  refine ok_cmp (okv (isa_ok (v := a) rfl t1 e2) (okv (isa_ok (v := b) rfl t2 e2) (okv (ne u) ⟨_, rfl, rfl, ?_⟩)))
  have hl2 : xs.length = ys.length := h2.length
  refine ok_skip (ok_ret (andC_t ?_))
  and_intros
  refine okv (I.len (by unfold sizeLine; omega)) ?_
  and_intros
  refine okv (J.len (by unfold sizeLine; omega)) ?_
  have el : opEq (.int xs.length) (.int ys.length) M = .ok (.bl true) M := by
    show opEq (.int xs.length) (.int ys.length) M = _
    rw [opEq_int, hl2]
    simp
  refine okv el ⟨rfl, ?_⟩
  and_intros
  refine ok_lc (OkR.bind ?_)
  and_intros
  obtain ⟨i1, hw1, k1⟩ := I.walk
  obtain ⟨i2, hw2, k2⟩ := J.walk
  have ez : zipA [a, b] M = .ok ⟨List.zipWith (fun x y => AV.tup [x, y]) i1.items i2.items, i1.guard ++ i2.guard⟩ M := by
    simp only [zipA, if_pos ht, hw1, hw2]
  refine okv ez ?_
  have P4 : ∀ {xs ys : List AV}, All2 (fun x y => ∀ M', Grw M M' → OkR (f_law_same k [.val x, .val y] M') fun r M2 => r = .bl true ∧ Grw M' M2) xs ys →
      All2 (fun (v r : AV) => ∃ x y, v = AV.tup [x, y] ∧ r = AV.bl true ∧ ∀ M', Grw M M' → OkR (f_law_same k [.val x, .val y] M') fun r M2 => r = .bl true ∧ Grw M' M2) (List.zipWith (fun x y => AV.tup [x, y]) xs ys) ((xs.map fun _ => true).map AV.bl) := by
    intro xs ys h
    induction h with
    | nil => exact .nil
    | cons r _ ih => exact .cons ⟨_, _, rfl, rfl, r⟩ ih
  have ei : (IT.mk (List.zipWith (fun x y => AV.tup [x, y]) i1.items i2.items) (i1.guard ++ i2.guard)).items = List.zipWith (fun x y => AV.tup [x, y]) xs ys := by
    show List.zipWith _ i1.items i2.items = _
    rw [k1.items, k2.items]
  refine ok_lcG ?_ (by rw [ei]; exact P4 h2) (by simpa using hl) ?_ ?_
  · intro M5 g5
    have o1 := k1.ok _ (I.ext g5)
    have o2 := k2.ok _ (J.ext g5)
    unfold IT.ok at o1 o2 ⊢
    rw [List.all_append, o1, o2]
    rfl
  · rintro v r M5 ⟨x, y, rfl, rfl, h⟩ g5
    refine ⟨_, rfl, ?_⟩
    and_intros
    exact ⟨rfl, h M5 g5⟩
  · intro M5 g5 hd5
    and_intros
    refine okv (all_bls hd5) ⟨?_, g5⟩
    simp
theorem same_ok : ∀ (k : Nat) {M : AH} {v w : AV}, Sm M k v w → ∀ M', Grw M M' → OkR (f_law_same k [.val v, .val w] M') fun r M2 => r = .bl true ∧ Grw M' M2
  | 0, _, _, _, h => nomatch h
  | k + 1, M, v, w, h => by
    intro M' g
    cases h with
    | sc h e1 e2 e3 e4 he => exact same_sc (h M' g) e1 e2 e3 e4 (he M' g)
    | @dct k i h =>
      have h' := g.get _ _ h
      have ty : tyA fns ws M' (.ref i) = some .dct := by simp only [tyA, h']
      refine ok_fn (ok_seq (if_f (ok_tru (okv (lt_ok (v := .ref i) (b := false) rfl ty rfl) (okv (a := false) (M := M') rfl ⟨rfl, ?_⟩)))))
      refine ok_skip (ok_seq (if_t (ok_tru (okv (isa_ok (v := .ref i) (b := true) rfl ty rfl) (okv (a := true) (M := M') rfl ⟨rfl, ?_⟩)))))
      refine ok_ret (andC_t (okv (isa_ok (v := .ref i) (b := true) rfl ty rfl) ⟨rfl, ?_⟩))
      have it (M1 : AH) (h : M1[i]? = some (.dct [])) : itemsL (.ref i) M1 = .ok (.ref M1.length) (M1 ++ [.lst []]) := by
        simp only [itemsL, dctOf, h]
        rfl
      and_intros
      refine okv (it _ h') ?_
      and_intros
      refine okv (it _ (app_get h')) ?_
      and_intros
      refine ⟨rfl, ?_⟩
      refine (same_seq (k := k) (s := M'.length + 10) (n := M'.length + 10) (a := .ref M'.length) (b := .ref (M' ++ [AO.lst []]).length) (xs := []) (ys := []) (.inr ⟨_, rfl, by omega, by omega, app_get (by simp)⟩) (.inr ⟨_, rfl, by simp, by simp, by simp⟩) rfl (by simp) .nil).imp ?_
      rintro r M2 ⟨rfl, g2⟩
      exact ⟨rfl, (Grw.app.trans Grw.app).trans g2⟩
    | @tup _ xs ys hl h => exact same_seq (s := 0) (n := 1) (.inl rfl) (.inl rfl) rfl hl (h.all.imp fun x y z M2 g2 => same_ok k z M2 (g.trans g2))
    | @lst _ i j xs ys hl h1 h2 h =>
      exact same_seq (s := i + j + 1) (n := i + j + 1) (.inr ⟨i, rfl, by omega, by omega, g.get _ _ h1⟩) (.inr ⟨j, rfl, by omega, by omega, g.get _ _ h2⟩) rfl hl (h.all.imp fun x y z M2 g2 => same_ok k z M2 (g.trans g2))
end K69
end

section
set_option Elab.async false
set_option linter.all false
set_option autoImplicit false
set_option maxRecDepth 100000
set_option maxHeartbeats 4000000
/-! k69, the plain side: parts of the law. -/
namespace K69
open PySem AM L2 AP
local macro_rules | `(tactic| and_intros) => `(tactic| repeat (first | (with_reducible first | refine ok_seq ?_ | refine ok_ret ?_ | refine ok_set ?_ | refine ok_drop ?_ | refine ok_con ?_ | refine ok_nil ?_ | refine ok_cons ?_ | refine ok_args ?_ | refine ok_bin ?_ | refine ok_un ?_ | refine ok_tru ?_ | refine ok_notT ?_ | refine ok_cmp ?_ | refine ok_par ?_ | refine ok_for ?_ | refine ok_skip ?_ | refine ok_notC ?_ | refine ok_ifC ?_ | refine ok_call ?_) | ((with_reducible apply ok_var); exact rfl)))
theorem sm_int {M : AH} {k : Nat} {i : Int} : Sm M (k + 1) (.int i) (.int i) := .sc (t := .int) (b := false) (fun _ _ => rfl) rfl rfl rfl rfl (fun M' _ => by
  rw [eqX_int, opEq_int]
  simp)
theorem sm_non {M : AH} {k : Nat} : Sm M (k + 1) .non .non := .sc (t := .non) (b := false) (fun _ _ => rfl) rfl rfl rfl rfl (fun M' _ => by
  show opEq .non .non M' = _
  unfold opEq
  rw [datS_non]
  simp [PyData.eqv])
theorem sm_t {M : AH} {k : Nat} (p : Int × Option Int) : Sm M (k + 2) (tav p) (tav p) := by
  obtain ⟨a, b⟩ := p
  cases b with
  | none => exact .tup (by simp) (.cons sm_int (.cons sm_non .nil))
  | some b => exact .tup (by simp) (.cons sm_int (.cons sm_int .nil))
theorem smL_ts {M : AH} {k : Nat} : ∀ T : Tld, SmL M (k + 2) (T.map tav) (T.map tav)
  | [] => .nil
  | p :: T => .cons (sm_t p) (smL_ts T)
theorem ok_tg3 {N : AM.Loc → AH → Prop} {T : AV → AH → Prop} {vs : AM.Loc} {M : AH} {i j l : Nat} {x y z : AV} (h : N (((vs.set i (some (.val x))).set j (some (.val y))).set l (some (.val z))) M) : OkS (tupG 3 (consG (nameG i) (consG (nameG j) (consG (nameG l) nilG))) (.tup [x, y, z]) vs M) N T := h
theorem ok_tg2 {N : AM.Loc → AH → Prop} {T : AV → AH → Prop} {vs : AM.Loc} {M : AH} {i j : Nat} {x y : AV} (h : N ((vs.set i (some (.val x))).set j (some (.val y))) M) : OkS (tupG 2 (consG (nameG i) (consG (nameG j) nilG)) (.tup [x, y]) vs M) N T := h
theorem gt_int {a b : Int} {M : AH} : opGt (.int a) (.int b) M = .ok (.bl (decide (b < a))) M := rfl
section
variable {s n c : Nat} {M : AH}
def greats (w : Int) : List Int := if w = 3 then [2, 12, 60, 1001] else [2, 9, 16, 31]
theorem greats_ok {w d : Int} (h : d ∈ greats w) : 2 ≤ d ∧ d ≤ 1001 := by
  unfold greats at h
  split at h <;> simp at h <;> omega
/-- a draw below one of the great ones -/
theorem bound_ok {vs : AM.Loc} {G : Nat} {w : Int} (S : Strm s n c M) (hc : c + 2 < 2 ^ 40) (hs : vs[1]? = some (some (.val (.ref s)))) (hG : vs[6]? = some (some (.val (.ref G)))) (gG : M[G]? = some (.lst ((greats w).map .int))) (G1 : G ≠ s) (G2 : G ≠ n) :
    OkR (callC 2 f_law_draw (consA (varC 1) (consA (callC 2 f_law_pick (consA (varC 1) (consA (varC 6) nilA))) nilA)) vs M) fun r M' => ∃ d : Int, r = .int d ∧ 0 ≤ d ∧ d ≤ 1000 ∧ Strm s n (c + 2) M' ∧ Fr s n M M' := by
  refine ok_call (ok_cons (ok_var hs (ok_cons (ok_call (ok_cons (ok_var hs (ok_cons (ok_var hG (ok_nil ⟨rfl, ?_⟩))))))))) 
  refine (pick_ok (xs := (greats w).map .int) (a := .ref G) S (by omega) (.inr ⟨G, rfl, G1, G2, gG⟩) ?_ ?_).imp ?_
  · unfold greats; split <;> simp
  · unfold greats sizeLine; split <;> simp
  rintro r M1 ⟨hm, S1, f1⟩
  obtain ⟨d, hd, rfl⟩ := List.mem_map.mp hm
  have := greats_ok hd
  refine ok_nil ⟨rfl, (draw_ok S1 (by omega) (by omega) (by omega)).imp ?_⟩
  rintro r M2 ⟨e, rfl, e0, e1, S2, f2⟩
  exact ⟨e, rfl, e0, by omega, S2, f1.trans f2⟩
/-- each answer is the stairs' -/
theorem log_loop {most gain : Int} {T : Tld} {L : List En} {g d : Nat} {z0 z1 z2 z4 z5 z6 z7 z8 z10 z15 : Option SV} {N : AM.Loc → AH → Prop} {U : AV → AH → Prop} {q11 q12 q13 q14 : Option SV} (F : Fin most gain T L) (hg : M[g]? = some (.lst (L.map En.av))) (hT : M[d]? = some (.lst (T.map tav))) (hl : T.length < 500000)
    (k : ∀ M' q11 q12 q13 q14, Grw M M' → N [z0, z1, z2, some (.val (.ref g)), z4, z5, z6, z7, z8, some (.val (.ref d)), z10, q11, q12, q13, q14, z15] M') :
    OkS (forC (valI (varC 3)) (tupG 3 (consG (nameG 11) (consG (nameG 12) (consG (nameG 13) nilG))))
  (seqC (asgC (callC 2 f_law_out (consA (varC 9) (consA (varC 11) nilA))) (nameG 14))
  (ifS (cmpT opNe (orC (bin2 opIs (varC 14) (conC .non)) (bin2 opGe (varC 14) (varC 12))) (varC 13))
  (retC (conC (.bl false)))
  skipC)) [z0, z1, z2, some (.val (.ref g)), z4, z5, z6, z7, z8, some (.val (.ref d)), z10, q11, q12, q13, q14, z15] M) N U := by
  refine ok_for (val_lst (i := g) rfl hg ?_)
  refine ok_loop (fun rest vs M' => ∃ (todo : List En) (q11 q12 q13 q14 : Option SV), (∀ e ∈ todo, e ∈ L) ∧ rest = todo.map En.av ∧ vs = [z0, z1, z2, some (.val (.ref g)), z4, z5, z6, z7, z8, some (.val (.ref d)), z10, q11, q12, q13, q14, z15] ∧ Grw M M') ?ok ?step ?fin _ _ _ ⟨L, _, _, _, _, fun _ h => h, rfl, rfl, Grw.refl⟩
  case ok =>
    rintro rest vs M' ⟨todo, q11, q12, q13, q14, _, _, _, g'⟩
    exact it_ok (g'.get _ _ hg)
  case fin =>
    rintro vs M' ⟨todo, q11, q12, q13, q14, _, _, rfl, g'⟩
    exact k _ _ _ _ _ g'
  case step =>
    rintro x rest vs M' ⟨todo, q11, q12, q13, q14, hm, hr, rfl, g'⟩
    cases todo with
    | nil => cases hr
    | cons e todo =>
      obtain ⟨rfl, rfl⟩ := List.cons.inj hr
      have he := F.cons e (hm e (by simp))
      obtain ⟨a, b, t⟩ := e
      show OkS (seqC _ _ [z0, z1, z2, some (.val (.ref g)), z4, z5, z6, z7, z8, some (.val (.ref d)), z10, some (.val (.int a)), some (.val (.int b)), some (.val (.bl t)), q14, z15] M') _ _
      refine ok_seq (ok_set (ok_call (ok_cons (ok_var (a := .ref d) rfl (ok_cons (ok_var (a := .int a) rfl (ok_nil ⟨rfl, ?_⟩)))))))
      refine (out_ok (g'.get _ _ hT) (by omega)).imp ?_
      rintro r M2 ⟨rfl, g2⟩
      have rest : ∃ (todo' : List En) (q11 q12 q13 q14 : Option SV), (∀ e ∈ todo', e ∈ L) ∧ todo.map En.av = todo'.map En.av ∧ [z0, z1, z2, some (SV.val (.ref g)), z4, z5, z6, z7, z8, some (.val (.ref d)), z10, some (.val (.int a)), some (.val (.int b)), some (.val (.bl t)), some (.val (outV T a)), z15] = [z0, z1, z2, some (.val (.ref g)), z4, z5, z6, z7, z8, some (.val (.ref d)), z10, q11, q12, q13, q14, z15] ∧ Grw M M2 :=
        ⟨todo, _, _, _, _, fun e h => hm e (by simp [h]), rfl, rfl, g'.trans g2⟩
      show OkS (ifS _ _ _ [z0, z1, z2, some (.val (.ref g)), z4, z5, z6, z7, z8, some (.val (.ref d)), z10, some (.val (.int a)), some (.val (.int b)), some (.val (.bl t)), some (.val (outV T a)), z15] M2) _ _
      have he : t = true ↔ above T a b := he
      have fin : ∀ u : Bool, (u = true ↔ above T a b) → opNe (.bl u) (.bl t) M2 = .ok (.bl false) M2 := by
        intro u hu
        have : u = t := by
          cases u <;> cases t <;> simp_all
        rw [this, opNe_bl]
        simp
      unfold outV at rest ⊢
      unfold above at fin
      cases hx : lastG T a with
      | none =>
        rw [hx] at rest fin
        refine if_f (ok_cmp (orC_f (okv (a := .bl false) (M := M2) rfl ⟨rfl, okv (a := .bl (decide (b ≤ -1))) (M := M2) rfl (ok_var (a := .bl t) rfl (okv (fin _ (by simp)) ⟨_, rfl, rfl, ok_skip rest⟩))⟩)))
      | some o =>
        rw [hx] at rest fin
        cases o with
        | none =>
          refine if_f (ok_cmp (orC_t (okv (a := .bl true) (M := M2) rfl ⟨rfl, ok_var (a := .bl t) rfl (okv (fin true (by simp)) ⟨_, rfl, rfl, ok_skip rest⟩)⟩)))
        | some v =>
          refine if_f (ok_cmp (orC_f (okv (a := .bl false) (M := M2) rfl ⟨rfl, okv (a := .bl (decide (b ≤ a + v))) (M := M2) rfl (ok_var (a := .bl t) rfl (okv (fin _ (by simp)) ⟨_, rfl, rfl, ok_skip rest⟩))⟩)))
end
end K69
end

section
set_option Elab.async false
set_option linter.all false
set_option autoImplicit false
set_option maxRecDepth 100000
set_option maxHeartbeats 4000000
/-! k69, the plain side: the law. -/
namespace K69
open PySem AM L2 AP
local macro_rules | `(tactic| and_intros) => `(tactic| repeat (first | (with_reducible first | refine ok_seq ?_ | refine ok_ret ?_ | refine ok_set ?_ | refine ok_drop ?_ | refine ok_con ?_ | refine ok_nil ?_ | refine ok_cons ?_ | refine ok_args ?_ | refine ok_bin ?_ | refine ok_un ?_ | refine ok_tru ?_ | refine ok_notT ?_ | refine ok_cmp ?_ | refine ok_par ?_ | refine ok_for ?_ | refine ok_skip ?_ | refine ok_notC ?_ | refine ok_ifC ?_ | refine ok_call ?_) | ((with_reducible apply ok_var); exact rfl)))
def LamB (g s : Nat) (w bd : Int) (vs : AM.Loc) : Prop := vs[3]? = some (some (.val (.ref g))) ∧ vs[1]? = some (some (.val (.ref s))) ∧ vs[4]? = some (some (.val (.int w))) ∧ vs[5]? = some (some (.val (.int bd)))
theorem boxF {g s n c : Nat} {w bd : Int} {vs : AM.Loc} (h : LamB g s w bd vs) (hc : c + 100000 < 2 ^ 40) : BoxF g s n c (lamF 2 [3, 1, 4, 5] vs (callC 6 f_law_box (consA (varC 2) (consA (varC 3) (consA (varC 4) (consA (varC 5) (consA (varC 0) (consA (varC 1) nilA)))))))) := by
  intro M0 L M a b hL ha ha2 hl
  obtain ⟨h1, h2, h3, h4⟩ := h
  have e : lamL [3, 1, 4, 5] vs ([AV.int a, AV.int b].map .val) = [some (.val (.int a)), some (.val (.int b)), some (.val (.ref g)), some (.val (.ref s)), some (.val (.int w)), some (.val (.int bd))] := by
    simp [lamL, h1, h2, h3, h4]
  unfold lamF
  rw [if_pos (by rfl), e]
  refine ok_call (ok_cons (ok_var (a := .ref g) rfl (ok_cons (ok_var (a := .ref s) rfl (ok_cons (ok_var (a := .int w) rfl (ok_cons (ok_var (a := .int bd) rfl (ok_cons (ok_var (a := .int a) rfl (ok_cons (ok_var (a := .int b) rfl (ok_nil ⟨rfl, ?_⟩)))))))))))))
  exact box_ok hL (by omega) ha ha2 (by omega)
theorem stream_ok {ns : List Int} (h : ns.length ≤ 63) : OkR (f_law_stream [.scr ns] []) fun r M' => r = .ref 1 ∧ Strm 1 0 0 M' := by
  refine ok_fn (ok_ret (ok_args (ok_cons ?_)))
  have e1 : listScr 0 (startL 1 [.scr ns]) [] = .ok (.ref 0) [.lst (ns.map .int)] := by
    show newL (ns.map .int) [] = _
    unfold newL
    rw [if_pos (by simp; unfold sizeLine; omega)]
    rfl
  refine okv e1 ?_
  and_intros
  refine okv (new_lst (by simp)) ⟨rfl, ⟨by decide, 0, 0, 17, ns, rfl, rfl, by decide, by decide, by decide, by decide, by decide, h⟩⟩
theorem mulN {a b : Nat} {M : AH} (ha : a < 1000000) (hb : b < 1000000) : opMul (.int (a : Nat)) (.int (b : Nat)) M = .ok (.int ((a * b : Nat) : Int)) M := by
  have lg : ((a : Nat) : Int).natAbs.log2 + ((b : Nat) : Int).natAbs.log2 < 1000000 := by
    have a : ((a : Nat) : Int).natAbs.log2 < 60 := log2_lt (by omega) (by decide)
    have b : ((b : Nat) : Int).natAbs.log2 < 60 := log2_lt (by omega) (by decide)
    omega
  show (if _ then _ else _) = _
  rw [if_pos lg]
  simp
def c_turn : CS := (seqC (asgC (argsC tupA (consA (argsC lstA nilA) (consA (callC 2 f_law_draw (consA (varC 1) (consA (conC (.int 5)) nilA))) (consA (bin2 opSub (callC 2 f_law_draw (consA (varC 1) (consA (conC (.int 30)) nilA))) (conC (.int 15))) nilA)))) (tupG 3 (consG (nameG 3) (consG (nameG 4) (consG (nameG 5) nilG)))))
  (seqC (asgC (ifC (cmpT opEq (varC 4) (conC (.int 3))) (argsC lstA (consA (conC (.int 2)) (consA (conC (.int 12)) (consA (conC (.int 60)) (consA (conC (.int 1001)) nilA))))) (argsC lstA (consA (conC (.int 2)) (consA (conC (.int 9)) (consA (conC (.int 16)) (consA (conC (.int 31)) nilA)))))) (nameG 6))
  (seqC (asgC (argsC tupA (consA (callC 2 f_law_draw (consA (varC 1) (consA (callC 2 f_law_pick (consA (varC 1) (consA (varC 6) nilA))) nilA))) (consA (callC 2 f_law_draw (consA (varC 1) (consA (callC 2 f_law_pick (consA (varC 1) (consA (varC 6) nilA))) nilA))) nilA))) (tupG 2 (consG (nameG 7) (consG (nameG 8) nilG))))
  (seqC (asgC (callX 3 f_learned_stairs (consL 4 2 [3, 1, 4, 5] (callC 6 f_law_box (consA (varC 2) (consA (varC 3) (consA (varC 4) (consA (varC 5) (consA (varC 0) (consA (varC 1) nilA))))))) (consX (varC 7) (consX (varC 8) nilX)))) (nameG 9))
  (seqC (ifS (orT (notT (truC (callC 2 (f_law_same 30) (consA (varC 9) (consA (lcC [10] (valI (varC 9)) (nameG 10) yesT (argsC tupleA (consA (varC 10) nilA))) nilA))))) (notT (truC (callC 1 f_law_are_stairs (consA (varC 9) nilA)))))
  (retC (conC (.bl false)))
  skipC)
  (seqC (ifS (notT (truC (argsC allA (consA (lcC [10] (valI (varC 9)) (nameG 10) yesT (andC (bin2 opLe (bin2 opIx (varC 10) (conC (.int 0))) (varC 7)) (orC (bin2 opIs (bin2 opIx (varC 10) (conC (.int 1))) (conC .non)) (bin2 opLe (bin2 opIx (varC 10) (conC (.int 1))) (varC 8))))) nilA))))
  (retC (conC (.bl false)))
  skipC)
  (seqC (ifS (cmpT opGt (argsC lenA (consA (varC 3) nilA)) (bin2 opAdd (bin2 opMul (bin2 opAdd (argsC lenA (consA (varC 9) nilA)) (conC (.int 1))) (callC 1 f_law_bits (consA (bin2 opAdd (varC 7) (conC (.int 2))) nilA))) (bin2 opMul (argsC lenA (consA (varC 9) nilA)) (callC 1 f_law_bits (consA (bin2 opAdd (bin2 opAdd (varC 7) (varC 8)) (conC (.int 2))) nilA)))))
  (retC (conC (.bl false)))
  skipC)
  (seqC (forC (valI (varC 3)) (tupG 3 (consG (nameG 11) (consG (nameG 12) (consG (nameG 13) nilG))))
  (seqC (asgC (callC 2 f_law_out (consA (varC 9) (consA (varC 11) nilA))) (nameG 14))
  (ifS (cmpT opNe (orC (bin2 opIs (varC 14) (conC .non)) (bin2 opGe (varC 14) (varC 12))) (varC 13))
  (retC (conC (.bl false)))
  skipC)))
  (seqC (ifS (notT (truC (callC 4 f_law_only_right (consA (varC 3) (consA (varC 9) (consA (varC 7) (consA (varC 8) nilA)))))))
  (retC (conC (.bl false)))
  skipC)
  (forC (argsI rangeA1 (consA (conC (.int 6)) nilA)) (nameG 15)
  (ifS (truC (callC 2 f_law_follows (consA (varC 3) (consA (callC 2 f_law_draw (consA (varC 1) (consA (argsC lenA (consA (varC 3) nilA)) nilA))) nilA))))
  (retC (conC (.bl false)))
  skipC)))))))))))
theorem law_is : c_law = (seqC (asgC (callX 1 f_law_stream (consV 0 nilX)) (nameG 1)) (seqC (forC (argsI rangeA1 (consA (conC (.int 3)) nilA)) (nameG 2) c_turn) (retC (conC (.bl true))))) := rfl
theorem ok_args' {op : List AV → AH → R IT} {a : CE} {vs : AM.Loc} {M : AH} {Q : IT → AH → Prop} (h : OkR (a vs M) fun x M1 => OkR (nilA vs M1) fun xs M2 => OkR (op (x :: xs) M2) Q) : OkR (argsI op (consA a nilA) vs M) Q :=
  OkR.bind (ok_cons h)
section
variable {s n c : Nat} {M : AH} {N : AM.Loc → AH → Prop} {U : AV → AH → Prop}
theorem turn_ok {z0 z2 q3 q4 q5 q6 q7 q8 q9 q10 q11 q12 q13 q14 q15 : Option SV} (hrn : ∀ (k : Nat) (M : AH), k < 2 ^ 60 → rangeA1 [.int k] M = .ok ⟨rangeV 0 k, []⟩ M) (S : Strm s n c M) (hc : c + 200000 < 2 ^ 40)
    (k : ∀ q3 q4 q5 q6 q7 q8 q9 q10 q11 q12 q13 q14 q15 M', Strm s n (c + 110000) M' → N [z0, some (.val (.ref s)), z2, q3, q4, q5, q6, q7, q8, q9, q10, q11, q12, q13, q14, q15] M') :
    OkS (c_turn [z0, some (.val (.ref s)), z2, q3, q4, q5, q6, q7, q8, q9, q10, q11, q12, q13, q14, q15] M) N U := by
  have lts : s < M.length := by obtain ⟨_, cur, cnt, st, ns, h1, _⟩ := S; exact get_lt h1
  have ltn : n < M.length := by obtain ⟨_, cur, cnt, st, ns, h1, h2, _⟩ := S; exact get_lt h2
  unfold c_turn
  generalize rangeA1 = RA at hrn ⊢
  refine ok_seq (ok_asg (ok_args (ok_cons (ok_args (ok_nil (okv (new_lst (by simp)) ?_))))))
  obtain ⟨g, eg⟩ : ∃ g, g = M.length := ⟨_, rfl⟩
  have hg : (M ++ [AO.lst []])[g]? = some (.lst (([] : List En).map En.av)) := by rw [eg]; simp
  have S0 : Strm s n c (M ++ [AO.lst []]) := S.app
  rw [← eg]
  have g1 : g ≠ s := by omega
  have g2 : g ≠ n := by omega
  generalize M ++ [AO.lst []] = M0 at hg S0
  refine ok_cons (ok_call (ok_cons (ok_var (a := .ref s) rfl (ok_cons (ok_con (ok_nil ⟨rfl, ?_⟩))))))
  refine (draw_ok S0 (by omega) (by decide) (by decide)).imp ?_
  rintro r M1 ⟨w, rfl, _, _, S1, f1⟩
  refine ok_cons (ok_bin (ok_call (ok_cons (ok_var (a := .ref s) rfl (ok_cons (ok_con (ok_nil ⟨rfl, ?_⟩)))))))
  refine (draw_ok S1 (by omega) (by decide) (by decide)).imp ?_
  rintro r M2 ⟨bd, rfl, _, _, S2, f2⟩
  refine okv (a := .int 15) (M := M2) rfl (okv (a := .int (bd - 15)) (M := M2) rfl (ok_nil (ok_tup (by simp) (ok_tg3 ?_))))
  have hg2 := f2.get _ _ g1 g2 (f1.get _ _ g1 g2 hg)
  show OkS (seqC _ _ [z0, some (.val (.ref s)), z2, some (.val (.ref g)), some (.val (.int w)), some (.val (.int (bd - 15))), q6, q7, q8, q9, q10, q11, q12, q13, q14, q15] M2) _ _
  refine ok_seq (ok_set (ok_ifC (ok_cmp (ok_var (a := .int w) rfl (ok_con (okv opEq_int ⟨_, rfl, ?_⟩))))))
  have gr : ∀ {Q : AV → AH → Prop} {vs : AM.Loc}, (∀ G M3, Grw M2 M3 → M2.length ≤ G → M3[G]? = some (.lst ((greats w).map .int)) → Q (.ref G) M3) → OkR (if (w == 3) = true then argsC lstA (consA (conC (.int 2)) (consA (conC (.int 12)) (consA (conC (.int 60)) (consA (conC (.int 1001)) nilA)))) vs M2 else argsC lstA (consA (conC (.int 2)) (consA (conC (.int 9)) (consA (conC (.int 16)) (consA (conC (.int 31)) nilA)))) vs M2) Q := by
    intro Q vs h
    by_cases e : w = 3
    · rw [if_pos (by simpa using e)]
      refine ok_args (okv (a := [.int 2, .int 12, .int 60, .int 1001]) (M := M2) rfl (okv (new_lst (by simp)) (h _ _ Grw.app (Nat.le_refl _) ?_)))
      simp [greats, e]
    · rw [if_neg (by simpa using e)]
      refine ok_args (okv (a := [.int 2, .int 9, .int 16, .int 31]) (M := M2) rfl (okv (new_lst (by simp)) (h _ _ Grw.app (Nat.le_refl _) ?_)))
      simp [greats, e]
  refine gr ?_
  intro G M3 f3 hG gG
  have ltM2 := f1.len
  have ltM3 := f2.len
  have lg0 := get_lt hg
  have Gs : G ≠ s := by have := get_lt hg2; omega
  have Gn : G ≠ n := by have := get_lt hg2; omega
  show OkS (seqC _ _ [z0, some (.val (.ref s)), z2, some (.val (.ref g)), some (.val (.int w)), some (.val (.int (bd - 15))), some (.val (.ref G)), q7, q8, q9, q10, q11, q12, q13, q14, q15] M3) _ _
  refine ok_seq (ok_asg (ok_args (ok_cons ?_)))
  refine (bound_ok (G := G) (w := w) (S2.ext f3) (by omega) rfl rfl gG Gs Gn).imp ?_
  rintro r M4 ⟨most, rfl, m0, m1, S4, f4⟩
  refine ok_cons ?_
  refine (bound_ok (G := G) (w := w) S4 (by omega) rfl rfl (f4.get _ _ Gs Gn gG) Gs Gn).imp ?_
  rintro r M5 ⟨gain, rfl, a0, a1, S5, f5⟩
  refine ok_nil (ok_tup (by simp) (ok_tg2 ?_))
  have hg5 := f5.get _ _ g1 g2 (f4.get _ _ g1 g2 (f3.get _ _ hg2))
  show OkS (seqC _ _ [z0, some (.val (.ref s)), z2, some (.val (.ref g)), some (.val (.int w)), some (.val (.int (bd - 15))), some (.val (.ref G)), some (.val (.int most)), some (.val (.int gain)), q9, q10, q11, q12, q13, q14, q15] M5) _ _
  have hLg : Lg g s n (c + 6) M5 [] M5 := ⟨hg5, S5.mono (by simp), FrX.refl, g1, g2⟩
  have lts5 : s < M5.length := by obtain ⟨_, cur, cnt, st, ns, h1, _⟩ := S5; exact get_lt h1
  have ltn5 : n < M5.length := by obtain ⟨_, cur, cnt, st, ns, h1, h2, _⟩ := S5; exact get_lt h2
  refine ok_seq (ok_set (ok_callX (ok_consL (ok_consX (ok_var (a := .int most) rfl (ok_consX (ok_var (a := .int gain) rfl (ok_nilX ⟨rfl, ?_⟩))))))))
  refine (learned_ok (boxF (g := g) (s := s) (n := n) (c := c + 6) (w := w) (bd := bd - 15) ⟨rfl, rfl, rfl, rfl⟩ (by omega)) (Nat.le_refl _) hLg m0 m1 a0 a1 lts5 ltn5).imp ?_
  rintro r M6 ⟨d, T, L, rfl, hd, ld, F, hL, tl, ll, cnt⟩
  show OkS (seqC _ _ [z0, some (.val (.ref s)), z2, some (.val (.ref g)), some (.val (.int w)), some (.val (.int (bd - 15))), some (.val (.ref G)), some (.val (.int most)), some (.val (.int gain)), some (.val (.ref d)), q10, q11, q12, q13, q14, q15] M6) _ _
  -- the same, and stairs
  refine ok_seq (if_f (orT_ff (ok_notT (ok_tru (ok_call (ok_cons (ok_var (a := .ref d) rfl (ok_cons ?_))))))))
  refine tups_ok (k := d) rfl hd (by omega) (by simp) ?_
  intro d2 M7 f7 ld2 hd2
  refine ok_nil ⟨rfl, (same_ok 30 (M := M7) (v := .ref d) (w := .ref d2) (.lst (by simp; omega) (f7.get _ _ hd) hd2 (smL_ts T)) M7 Grw.refl).imp ?_⟩
  rintro r M8 ⟨rfl, f8⟩
  refine okv (a := true) (M := M8) rfl ⟨rfl, ok_notT (ok_tru (ok_call (ok_cons (ok_var (a := .ref d) rfl (ok_nil ⟨rfl, ?_⟩)))))⟩
  refine (are_ok ((f7.trans f8).get _ _ hd) (by omega) F.asc (fun p hp => ⟨(F.rng p hp).1, fun v hv => ((F.rng p hp).2.2 v hv).1⟩)).imp ?_
  rintro r M9 ⟨rfl, f9⟩
  refine okv (a := true) (M := M9) rfl ⟨rfl, rfl, ok_skip ?_⟩
  have f69 := (f7.trans f8).trans f9
  -- bounds
  refine ok_seq (if_f (ok_notT (ok_tru (ok_args (ok_cons ?_)))))
  refine ok_lcM (α := Int × Option Int) (L := T) (f := tav) (h := fun _ => .bl true) (var_eq rfl) (f69.get _ _ hd) (by omega) ?_ ?_
  · intro p hp M' g'
    refine ⟨_, rfl, ?_⟩
    obtain ⟨p0, p1, p2⟩ := F.rng p hp
    obtain ⟨a, o⟩ := p
    refine andC_t (okv (a := .bl (decide (a ≤ most))) (M := M') rfl ⟨by rw [decide_eq_true p1], ?_⟩)
    cases o with
    | none => exact orC_t (okv (a := .bl true) (M := M') rfl ⟨rfl, rfl, Grw.refl⟩)
    | some v => exact orC_f (okv (a := .bl false) (M := M') rfl ⟨rfl, okv (a := .bl (decide (v ≤ gain))) (M := M') rfl ⟨by rw [decide_eq_true (p2 v rfl).2], Grw.refl⟩⟩)
  intro d3 M10 f10 ld3 hd3
  have hd3 : M10[d3]? = some (.lst ((T.map fun _ => true).map .bl)) := by rw [hd3, List.map_map]; rfl
  refine ok_nil (okv (all_bls hd3) (okv (a := true) (M := M10) (by simp [truA]) ⟨rfl, ok_skip ?_⟩))
  have f610 := f69.trans f10
  -- how many questions
  have hgA : M10[g]? = some (.lst (L.map En.av)) := f610.get _ _ hL.log
  have hdA : M10[d]? = some (.lst (T.map tav)) := f610.get _ _ hd
  refine ok_seq (if_f (ok_cmp (ok_args (ok_cons (ok_var (a := .ref g) rfl (ok_nil (okv (len_lst hgA) ?_)))))))
  refine ok_bin (ok_bin (ok_bin (ok_args (ok_cons (ok_var (a := .ref d) rfl (ok_nil (okv (len_lst hdA) (okv (a := .int 1) (M := M10) rfl (okv (a := .int ((T.length + 1 : Nat) : Int)) (M := M10) (by simp [opAdd]) ?_)))))))))
  refine ok_call (ok_cons (okv (a := .int (most + 2)) (M := M10) rfl (ok_nil ⟨rfl, (bits_ok (n := most + 2) (by omega)).imp ?_⟩)))
  rintro r M11 ⟨K1, rfl, hK1, kb1, rfl⟩
  refine okv (mulN (by omega) (by omega)) ?_
  refine ok_bin (ok_args (ok_cons (ok_var (a := .ref d) rfl (ok_nil (okv (len_lst hdA) ?_)))))
  refine ok_call (ok_cons (okv (a := .int (most + gain + 2)) (M := M11) rfl (ok_nil ⟨rfl, (bits_ok (n := most + gain + 2) (by omega)).imp ?_⟩)))
  rintro r M12 ⟨K2, rfl, hK2, kb2, rfl⟩
  have hT : (T.map tav).length = T.length := by simp
  rw [hT]
  refine okv (mulN (by omega) (by omega)) ?_
  refine okv (a := .int (((T.length + 1) * K1 + T.length * K2 : Nat) : Int)) (M := M12) (by simp [opAdd]) ?_
  have cc := cnt K1 K2 hK1 hK2
  refine okv gt_int ⟨_, rfl, decide_eq_false ?_, ok_skip ?_⟩
  · simp only [List.length_map]
    omega
  -- the log
  refine ok_seq (log_loop F hgA hdA (by omega) ?_)
  intro M13 q11 q12 q13 q14 f13
  refine ok_seq (if_f (ok_notT (ok_tru (ok_call (ok_cons (ok_var (a := .ref g) rfl (ok_cons (ok_var (a := .ref d) rfl (ok_cons (ok_var (a := .int most) rfl (ok_cons (ok_var (a := .int gain) rfl (ok_nil ⟨rfl, ?_⟩)))))))))))))
  refine (only_ok F (f13.get _ _ hgA) (by omega) (f13.get _ _ hdA) (by omega)).imp ?_
  rintro r M14 ⟨rfl, f14⟩
  refine okv (a := true) (M := M14) rfl ⟨rfl, ok_skip ?_⟩
  have f614 := (f610.trans f13).trans f14
  have S14 : Strm s n (c + 100010) M14 := (hL.st.ext f614).mono (by omega)
  have hgB : M14[g]? = some (.lst (L.map En.av)) := f614.get _ _ hL.log
  refine ok_for (ok_args' (ok_con (ok_nil (okv (hrn 6 M14 (by decide)) ?_))))
  refine ok_loop (fun rest vs M' => ∃ (u : Nat) (z : Option SV), u + rest.length ≤ 6 ∧ vs = [z0, some (.val (.ref s)), z2, some (.val (.ref g)), some (.val (.int w)), some (.val (.int (bd - 15))), some (.val (.ref G)), some (.val (.int most)), some (.val (.int gain)), some (.val (.ref d)), q10, q11, q12, q13, q14, z] ∧ Strm s n (c + 100010 + u) M' ∧ M'[g]? = some (.lst (L.map En.av))) (fun _ _ _ _ => rfl) ?step ?fin _ _ _ ⟨0, _, by simp [rangeV], rfl, S14, hgB⟩
  case fin =>
    rintro vs M' ⟨u, z, hu, rfl, S', hg'⟩
    exact k _ _ _ _ _ _ _ _ _ _ _ _ _ M' (S'.mono (by omega))
  case step =>
    rintro x rest vs M' ⟨u, z, hu, rfl, S', hg'⟩
    simp only [List.length_cons] at hu
    show OkS (ifS _ _ _ [z0, some (.val (.ref s)), z2, some (.val (.ref g)), some (.val (.int w)), some (.val (.int (bd - 15))), some (.val (.ref G)), some (.val (.int most)), some (.val (.int gain)), some (.val (.ref d)), q10, q11, q12, q13, q14, some (.val x)] M') _ _
    refine if_f (ok_tru (ok_call (ok_cons (ok_var (a := .ref g) rfl (ok_cons (ok_call (ok_cons (ok_var (a := .ref s) rfl (ok_cons (ok_args (ok_cons (ok_var (a := .ref g) rfl (ok_nil (okv (len_lst hg') (ok_nil ⟨rfl, ?_⟩)))))))))))))))
    have ln : 0 < L.length := List.length_pos_iff.mpr F.ne
    refine (draw_ok S' (by omega) (by simp; omega) (by simp; omega)).imp ?_
    rintro r M'' ⟨v, rfl, v0, v1, S'', f''⟩
    simp only [List.length_map] at v1
    obtain ⟨kk, rfl⟩ : ∃ kk : Nat, v = kk := ⟨v.toNat, by omega⟩
    have hkl : kk < L.length := by omega
    have hg'' := f''.get _ _ g1 g2 hg'
    refine ok_nil ⟨rfl, (fol_ok F.nf (List.getElem?_eq_getElem hkl) hg'' (by omega)).imp ?_⟩
    rintro r M3' ⟨rfl, f3'⟩
    exact okv (a := false) (M := M3') rfl ⟨rfl, ok_skip ⟨u + 1, _, by omega, rfl, S''.ext f3', f3'.get _ _ hg''⟩⟩
theorem plain (ns : List Int) (h : ns.length ≤ 63) : ∃ M, f_law [.scr ns] [] = .ok (.bl true) M := by
  have key : OkR (f_law [.scr ns] []) fun r _ => r = .bl true := by
    have hrn : ∀ (k : Nat) (M : AH), k < 2 ^ 60 → rangeA1 [.int k] M = .ok ⟨rangeV 0 k, []⟩ M := fun k M h => range_ok h
    have ht := fun (s n c : Nat) (M : AH) (N : AM.Loc → AH → Prop) (U : AV → AH → Prop) (z0 z2 q3 q4 q5 q6 q7 q8 q9 q10 q11 q12 q13 q14 q15 : Option SV) => @turn_ok s n c M N U z0 z2 q3 q4 q5 q6 q7 q8 q9 q10 q11 q12 q13 q14 q15 hrn
    unfold f_law
    rw [law_is]
    generalize c_turn = CT at ht ⊢
    generalize rangeA1 = RA at hrn ⊢
    refine ok_fn (ok_seq (ok_set ?_))
    have e1 : callX 1 f_law_stream (consV 0 nilX) (startL 16 [.scr ns]) [] = f_law_stream [.scr ns] [] := rfl
    rw [e1]
    refine (stream_ok h).imp ?_
    rintro r M ⟨rfl, S⟩
    refine ok_seq (ok_for (ok_args' (ok_con (ok_nil (okv (hrn 3 M (by decide)) ?_)))))
    refine OkS.imp (ok_loop (T := fun r _ => r = .bl true) (N := fun _ _ => True) (fun rest vs' M' => ∃ (u : Nat) (q2 q3 q4 q5 q6 q7 q8 q9 q10 q11 q12 q13 q14 q15 : Option SV), u + 110000 * rest.length ≤ 330000 ∧ Strm 1 0 u M' ∧ vs' = [some (.scr ns), some (.val (.ref 1)), q2, q3, q4, q5, q6, q7, q8, q9, q10, q11, q12, q13, q14, q15])
      (fun _ _ _ _ => rfl) ?step (fun _ _ _ => trivial) _ _ _ ⟨0, none, none, none, none, none, none, none, none, none, none, none, none, none, none, by simp [rangeV], S, rfl⟩) (fun _ _ _ => ok_ret (ok_con rfl)) (fun _ _ z => z)
    case step =>
      rintro x rest vs' M' ⟨u, q2, q3, q4, q5, q6, q7, q8, q9, q10, q11, q12, q13, q14, q15, hu, S', rfl⟩
      simp only [List.length_cons] at hu
      refine ok_turn (ht 1 0 u M' _ _ _ _ _ _ _ _ _ _ _ _ _ _ _ _ _ S' (by omega) ?_)
      intro q3 q4 q5 q6 q7 q8 q9 q10 q11 q12 q13 q14 q15 M'' S''
      exact ⟨u + 110000, _, q3, q4, q5, q6, q7, q8, q9, q10, q11, q12, q13, q14, q15, by omega, S'', rfl⟩
  obtain ⟨r, M, e, rfl⟩ := key.eq
  exact ⟨M, e⟩
end
end K69
end

section
set_option Elab.async false
set_option linter.all false
/-! law_k69_whole_stairs_whatever_is_a holds. -/
theorem PySem.Challenge.cw_anyaround_k69_whole_stairs_whatever_is_a_holds : PySem.Challenge.rw_anyaround_k69_whole_stairs_whatever_is_a.Holds :=
  K69.holds_of fun ns h _ => K69.plain ns h
end
