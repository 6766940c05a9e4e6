import PyProof.Rows.All
import Wide.All
import OpenK.AllK
import Wide.FinOn
import HandS.ForExc
import HandS.Comp
import HandS.Dict
import HandS.Iter
import HandS.Lambda
import KE.KDictKeyed
import HandS.Flow
import HandS.Wide
import HandS.TupAny
import HandS.Deep
import HandS.IsInst
import HandS.TupLen
import HandS.Zip
import KE.GoesEnum
import HandS.CallSlots
import HandS.Defaults
import HandS.ExcInit
import HandS.TryMany
import HandS.OwnEq
import HandS.DictComp
import HandS.Conv
import HandS.ListItems
import KE.SortData
import PyProof.ReprRoads
import HandS.HeadWalk
import HandS.Head0
import HandS.Head1
import HandS.Head2
import HandS.HeadEnd
import HandS.HeadHook1
import HandS.HeadHook2
import HandS.NamedTupSort
import PyProof.InstNe
import KE.KRevSl
import PyProof.Rows.EqMixed
import PyProof.InstSpecial
import HandS.Style
import PyProof.Rows.TupIn
import PySem.Challenge.RW_anyaround_k01_webs_made
section
set_option Elab.async false
set_option linter.all false
set_option autoImplicit false
set_option maxRecDepth 100000
set_option maxHeartbeats 4000000
/-! AM: an abstract machine over the hand layer: values with tuples as data, a heap by numbers, computations as plain functions. -/
namespace AM
open PySem PySem.Spec L2

/-! ### values, heaps, results -/
inductive AV where
  | non | bl (b : Bool) | int (i : Int) | str (s : Str)
  | tup (xs : List AV) | ref (i : Nat) | glo (x : Str) | ty (n : String)
  deriving Inhabited
inductive AO where
  | lst (xs : List AV) | dct (kvs : List (AV × AV)) | ins (c : Str) (fs : List (Str × AV)) | frz (xs : List AV)
  deriving Inhabited
abbrev AH := List AO
inductive R (α : Type) where
  | ok (a : α) (M : AH)
  | exc (c : Str) (fs : List (Str × AV)) (M : AH)
  | bad
def R.bind {α β : Type} (r : R α) (k : α → AH → R β) : R β := match r with
  | .ok a M => k a M
  | .exc c fs M => .exc c fs M
  | .bad => .bad
@[simp] theorem R.bind_ok {α β : Type} (a : α) (M : AH) (k : α → AH → R β) : (R.ok a M).bind k = k a M := rfl
@[simp] theorem R.bind_exc {α β : Type} (c fs M) (k : α → AH → R β) : (R.exc c fs M).bind k = .exc c fs M := rfl
@[simp] theorem R.bind_bad {α β : Type} (k : α → AH → R β) : (R.bad : R α).bind k = .bad := rfl
/-- what a slot holds: a value, a closure that was handed in (by what a call of it computes; the room it asks for), an exception -/
inductive SV where
  | val (a : AV) | clo (k : Nat) (F : List AV → AH → R AV) | exc (c : Str) (fs : List (Str × AV)) | scr (ns : List Int)
instance : Inhabited SV := ⟨.val .non⟩
abbrev Loc := List (Option SV)
abbrev CE := Loc → AH → R AV
abbrev CT := Loc → AH → R Bool
abbrev CA := Loc → AH → R (List AV)
/-- a statement's end -/
inductive RS where
  | nx (vs : Loc) (M : AH) | rt (a : AV) (M : AH) | bk (vs : Loc) (M : AH) | ct (vs : Loc) (M : AH)
  | exc (c : Str) (fs : List (Str × AV)) (vs : Loc) (M : AH) | bad
abbrev CS := Loc → AH → RS

/-! ### the relation to the hand layer's heap -/
structure Cfg where
  K : PySem.W.Frag
  mg : Str → Option Value
  P : Program
  w : World
  base : Heap
  T : List (Addr × Str)
mutual
def VR (κ : Cfg) (ι : List Addr) (H : Hp) : AV → V → Prop
  | .non, v => v = .non
  | .bl b, v => v = .bl b
  | .int i, v => v = .int i
  | .str s, v => v = .str s
  | .ref i, v => ∃ a, ι[i]? = some a ∧ v = .ref a
  | .glo x, v => ∃ f, κ.mg x = some (.ref f) ∧ v = .ref f
  | .ty n, v => v = .ty n
  | .tup xs, v => ∃ a vs, v = .ref a ∧ SqT κ.K H a vs ∧ VRs κ ι H xs vs
def VRs (κ : Cfg) (ι : List Addr) (H : Hp) : List AV → List V → Prop
  | [], vs => vs = []
  | x :: xs, vs => ∃ v ws, vs = v :: ws ∧ VR κ ι H x v ∧ VRs κ ι H xs ws
end
/-- what never changes is kept -/
structure Keep (H H' : Hp) : Prop where
  tup : ∀ a xs, H a = some (.tup xs) → H' a = some (.tup xs)
  frz : ∀ a o u, H a = some (.frz o u) → H' a = some (.frz o u)
/-- the table of code objects at P: those that it tells stand fast and bear the name q -/
def TabF (H : Hp) (P : Addr) (q : Str) : Prop := ∃ ps : Array Value, H P = some (.tbl ps) ∧ TriplesOk ps.toList ∧ ∀ (pos : Pos) (cv : Value), codeAmong pos ps.toList = some cv → ∃ c o, cv = .ref c ∧ H c = some (.frz o (LamX.CodeO c q))
theorem Keep.refl (H : Hp) : Keep H H := ⟨fun _ _ h => h, fun _ _ _ h => h⟩
theorem Keep.trans {H H1 H2 : Hp} (a : Keep H H1) (b : Keep H1 H2) : Keep H H2 := ⟨fun c xs h => b.tup c xs (a.tup c xs h), fun c o u h => b.frz c o u (a.frz c o u h)⟩
theorem Keep.new {H : Hp} {p : Addr} {o : HO} (hp : H p = none) : Keep H (upd H p o) :=
  ⟨fun a xs h => by rw [upd_ne (ne_of_none h hp)]; exact h, fun a o u h => by rw [upd_ne (ne_of_none h hp)]; exact h⟩
theorem Keep.mut {H : Hp} {p : Addr} {o o' : HO} (hp : H p = some o) (h1 : ∀ xs, o ≠ .tup xs) (h2 : ∀ x u, o ≠ .frz x u) : Keep H (upd H p o') :=
  ⟨fun a xs h => by rw [upd_ne (ne_of h hp fun e => h1 xs e.symm)]; exact h, fun a o u h => by rw [upd_ne (ne_of h hp fun e => h2 o u e.symm)]; exact h⟩
theorem Keep.sqT {K : PySem.W.Frag} {H H' : Hp} {a : Addr} {xs : List V} (k : Keep H H') (h : SqT K H a xs) : SqT K H' a xs := by
  rcases h with (h | ⟨o, h⟩) | h
  · exact .inl (.inl (k.tup _ _ h))
  · exact .inl (.inr ⟨o, k.frz _ _ _ h⟩)
  · exact .inr h
theorem TabF.keep {H H' : Hp} {P : Addr} {q : Str} (t : TabF H P q) (k : Keep H H') (e : ∀ ps, H P = some (.tbl ps) → H' P = some (.tbl ps)) : TabF H' P q := by
  obtain ⟨ps, h1, h2, h3⟩ := t
  refine ⟨ps, e _ h1, h2, fun pos cv hc => ?_⟩
  obtain ⟨c, o, e1, e2⟩ := h3 pos cv hc
  exact ⟨c, o, e1, k.frz _ _ _ e2⟩
theorem pre_get {α : Type} {l l' : List α} (h : l <+: l') {i : Nat} {a : α} (e : l[i]? = some a) : l'[i]? = some a := by
  obtain ⟨t, rfl⟩ := h
  obtain ⟨hi, _⟩ := List.getElem?_eq_some_iff.mp e
  rw [List.getElem?_append_left hi]; exact e
mutual
theorem VR.mono {κ : Cfg} {ι ι' : List Addr} {H H' : Hp} (hι : ι <+: ι') (k : Keep H H') : ∀ {a : AV} {v : V}, VR κ ι H a v → VR κ ι' H' a v
  | .non, v, h => by rw [VR] at h ⊢; exact h
  | .bl b, v, h => by rw [VR] at h ⊢; exact h
  | .int i, v, h => by rw [VR] at h ⊢; exact h
  | .str s, v, h => by rw [VR] at h ⊢; exact h
  | .ref i, v, h => by
    rw [VR] at h ⊢
    obtain ⟨a, e, r⟩ := h
    exact ⟨a, pre_get hι e, r⟩
  | .glo x, v, h => by rw [VR] at h ⊢; exact h
  | .ty n, v, h => by rw [VR] at h ⊢; exact h
  | .tup xs, v, h => by
    rw [VR] at h ⊢
    obtain ⟨a, vs, e, q, r⟩ := h
    exact ⟨a, vs, e, k.sqT q, VRs.mono hι k r⟩
theorem VRs.mono {κ : Cfg} {ι ι' : List Addr} {H H' : Hp} (hι : ι <+: ι') (k : Keep H H') : ∀ {xs : List AV} {vs : List V}, VRs κ ι H xs vs → VRs κ ι' H' xs vs
  | [], vs, h => by rw [VRs] at h ⊢; exact h
  | x :: xs, vs, h => by
    rw [VRs] at h ⊢
    obtain ⟨v, ws, e, r, q⟩ := h
    exact ⟨v, ws, e, VR.mono hι k r, VRs.mono hι k q⟩
end
section
variable {κ : Cfg} {ι : List Addr} {H : Hp}
theorem VRs.nil : VRs κ ι H [] [] := by rw [VRs]
theorem VRs.cons {x : AV} {v : V} {xs : List AV} {vs : List V} (h : VR κ ι H x v) (t : VRs κ ι H xs vs) : VRs κ ι H (x :: xs) (v :: vs) := by
  rw [VRs]; exact ⟨v, vs, rfl, h, t⟩
theorem VRs.cons_inv {x : AV} {xs : List AV} {vs : List V} (h : VRs κ ι H (x :: xs) vs) : ∃ v ws, vs = v :: ws ∧ VR κ ι H x v ∧ VRs κ ι H xs ws := by rw [VRs] at h; exact h
theorem VRs.nil_inv {vs : List V} (h : VRs κ ι H [] vs) : vs = [] := by rw [VRs] at h; exact h
theorem VRs.length : ∀ {xs : List AV} {vs : List V}, VRs κ ι H xs vs → xs.length = vs.length
  | [], vs, h => by rw [h.nil_inv]; rfl
  | x :: xs, vs, h => by
    obtain ⟨v, ws, rfl, _, t⟩ := h.cons_inv
    simp [VRs.length t]
theorem VRs.get : ∀ {xs : List AV} {vs : List V} {i : Nat} {x : AV}, VRs κ ι H xs vs → xs[i]? = some x → ∃ v, vs[i]? = some v ∧ VR κ ι H x v
  | [], _, _, _, _, e => by simp at e
  | y :: xs, vs, i, x, h, e => by
    obtain ⟨v, ws, rfl, r, t⟩ := h.cons_inv
    cases i with
    | zero => simp at e; subst e; exact ⟨v, rfl, r⟩
    | succ i => simpa using VRs.get t (i := i) (by simpa using e)
theorem VRs.app : ∀ {xs ys : List AV} {vs ws : List V}, VRs κ ι H xs vs → VRs κ ι H ys ws → VRs κ ι H (xs ++ ys) (vs ++ ws)
  | [], ys, vs, ws, h, t => by rw [h.nil_inv]; exact t
  | x :: xs, ys, vs, ws, h, t => by
    obtain ⟨v, us, rfl, r, q⟩ := h.cons_inv
    exact .cons r (VRs.app q t)
theorem VRs.take : ∀ (n : Nat) {xs : List AV} {vs : List V}, VRs κ ι H xs vs → VRs κ ι H (xs.take n) (vs.take n)
  | 0, _, _, _ => by simpa using VRs.nil
  | n + 1, [], vs, h => by rw [h.nil_inv]; simpa using VRs.nil
  | n + 1, x :: xs, vs, h => by
    obtain ⟨v, us, rfl, r, q⟩ := h.cons_inv
    exact .cons r (VRs.take n q)
theorem VRs.drop : ∀ (n : Nat) {xs : List AV} {vs : List V}, VRs κ ι H xs vs → VRs κ ι H (xs.drop n) (vs.drop n)
  | 0, _, _, h => by simpa using h
  | n + 1, [], vs, h => by rw [h.nil_inv]; simpa using VRs.nil
  | n + 1, x :: xs, vs, h => by
    obtain ⟨v, us, rfl, r, q⟩ := h.cons_inv
    simpa using VRs.drop n q
theorem VRs.set : ∀ (i : Nat) {x : AV} {v : V} {xs : List AV} {vs : List V}, VR κ ι H x v → VRs κ ι H xs vs → VRs κ ι H (xs.set i x) (vs.set i v)
  | _, _, _, [], vs, _, h => by rw [h.nil_inv]; simpa using VRs.nil
  | 0, x, v, y :: xs, vs, r, h => by
    obtain ⟨v', us, rfl, r', q⟩ := h.cons_inv
    exact .cons r q
  | i + 1, x, v, y :: xs, vs, r, h => by
    obtain ⟨v', us, rfl, r', q⟩ := h.cons_inv
    exact .cons r' (VRs.set i r q)
theorem VRs.erase : ∀ (i : Nat) {xs : List AV} {vs : List V}, VRs κ ι H xs vs → VRs κ ι H (xs.eraseIdx i) (vs.eraseIdx i)
  | _, [], vs, h => by rw [h.nil_inv]; simpa using VRs.nil
  | 0, y :: xs, vs, h => by
    obtain ⟨v', us, rfl, r', q⟩ := h.cons_inv
    exact q
  | i + 1, y :: xs, vs, h => by
    obtain ⟨v', us, rfl, r', q⟩ := h.cons_inv
    exact .cons r' (VRs.erase i q)
theorem VRs.dropLast {xs : List AV} {vs : List V} (h : VRs κ ι H xs vs) : VRs κ ι H xs.dropLast vs.dropLast := by
  rw [List.dropLast_eq_take, List.dropLast_eq_take, h.length]; exact h.take _
theorem VRs.rev : ∀ {xs : List AV} {vs : List V}, VRs κ ι H xs vs → VRs κ ι H xs.reverse vs.reverse
  | [], vs, h => by rw [h.nil_inv]; exact .nil
  | x :: xs, vs, h => by
    obtain ⟨v, us, rfl, r, q⟩ := h.cons_inv
    rw [List.reverse_cons, List.reverse_cons]
    exact (VRs.rev q).app (.cons r .nil)
theorem VRs.none {xs : List AV} {vs : List V} (h : VRs κ ι H xs vs) {i : Nat} (e : xs[i]? = .none) : vs[i]? = .none := by
  rw [List.getElem?_eq_none_iff] at e ⊢
  rw [← h.length]; exact e
end
/-- an instance's fields -/
def FR (κ : Cfg) (ι : List Addr) (H : Hp) (fs : List (Str × AV)) (gs : List (Str × V)) : Prop := fs.map (·.1) = gs.map (·.1) ∧ VRs κ ι H (fs.map (·.2)) (gs.map (·.2))
/-- a dict with flat keys -/
inductive KR : AV → Key → Prop
  | int (i : Int) : KR (.int i) (.inl i)
  | str (s : Str) : KR (.str s) (.inr s)
/- a value as a dict's key -/
mutual
def AV.key : AV → Option NestedKey
  | .non => some .none
  | .bl b => some (.num (if b = true then 1 else 0))
  | .int i => some (.num i)
  | .str s => some (.text s)
  | .tup xs => (AV.keys xs).map .tup
  | .ref _ => none
  | .glo _ => none
  | .ty _ => none
def AV.keys : List AV → Option (List NestedKey)
  | [] => some []
  | x :: xs => match AV.key x, AV.keys xs with
    | some k, some ks => some (k :: ks)
    | _, _ => none
end
/-- at a: a dict whose keys are tuples -/
def NdO (P : Program) (w : World) (a : Addr) (ks : List (NestedKey × Addr × V)) : HO := .ext fun h => (a == sysModules) = false ∧ ks.length ≤ sizeLine ∧ ∃ (o : Obj) (es : Array DictEntry) (ep : Nat) (xs : List (NestedKey × Addr × Value)),
  h.get? a = some o ∧ o.ExactDict ∧ o.data = .dict es ep ∧ es.toList = xs.map (entryOfKey (nestedKind P w)) ∧ Paired (fun (p : NestedKey × Addr × V) (q : NestedKey × Addr × Value) => p.1 = q.1 ∧ p.2.1 = q.2.1 ∧ RelV p.2.2 q.2.2) ks xs ∧ (xs.map (·.1)).Nodup
def TR (κ : Cfg) (ι : List Addr) (H : Hp) (kvs : List (AV × AV)) (ks : List (NestedKey × Addr × V)) : Prop :=
  Paired (fun (p : AV × AV) (q : NestedKey × Addr × V) => p.1.key = some q.1 ∧ VR κ ι H p.1 (.ref q.2.1) ∧ q.1.depth ≤ 8 ∧ VR κ ι H p.2 q.2.2) kvs ks
def DR (κ : Cfg) (ι : List Addr) (H : Hp) (kvs : List (AV × AV)) (gs : List (Key × V)) : Prop := Paired (fun p q => KR p.1 q.1 ∧ VR κ ι H p.2 q.2) kvs gs
/-- what stands at an address -/
def OR (κ : Cfg) (ι : List Addr) (H : Hp) : AO → Addr → Prop
  | .lst xs, a => ∃ vs, H a = some (.lst vs) ∧ VRs κ ι H xs vs
  | .frz xs, a => ∃ o vs, H a = some (.frz o (.lst vs)) ∧ VRs κ ι H xs vs
  | .ins c fs, a => ∃ C dx gs, κ.mg c = some (.ref C) ∧ H a = some (.ins C dx gs) ∧ FR κ ι H fs gs
  | .dct kvs, a => (∃ gs, H a = some (.dK gs) ∧ DR κ ι H kvs gs) ∨ ∃ ks, H a = some (NdO κ.P κ.w a ks) ∧ TR κ ι H kvs ks ∧ kvs ≠ []
structure Rep (κ : Cfg) (ι : List Addr) (M : AH) (H : Hp) : Prop where
  len : ι.length = M.length
  nd : ι.Nodup
  obj : ∀ (i : Nat) (o : AO) (a : Addr), M[i]? = some o → ι[i]? = some a → OR κ ι H o a
  tab : ∀ p ∈ κ.T, TabF H p.1 p.2
/-- an exception's own dict -/
def ExR (κ : Cfg) (ι : List Addr) (H : Hp) (c : Str) (fs : List (Str × AV)) (C : Addr) (d : Option Addr) : Prop :=
  κ.mg c = some (.ref C) ∧ match d with
    | some d => ∃ gs, H d = some (.xd gs) ∧ FR κ ι H fs gs
    | none => fs = []
/-- what is wanted of a call's end -/
def OutF (κ : Cfg) (ι : List Addr) (H : Hp) (Q : VK) (E : XK) : R AV → Prop
  | .ok a M' => ∀ ι' H' v, ι <+: ι' → Keep H H' → Rep κ ι' M' H' → VR κ ι' H' a v → Q v H'
  | .exc c fs M' => ∀ ι' H' C d, ι <+: ι' → Keep H H' → Rep κ ι' M' H' → ExR κ ι' H' c fs C d → E (.ref C) d H'
  | .bad => False
/-- calls of f compute F -/
def CloOk (κ : Cfg) (k : Nat) (ι : List Addr) (H : Hp) (f : Addr) (F : List AV → AH → R AV) : Prop :=
  ∀ (A : Around) (outer : List Env) (s : Shared) (H1 : Hp) (ι1 : List Addr) (M1 : AH) (as : List AV) (us : List Value) (ws : List V) (Q : VK) (E : XK), Room k A → A.guards = some [] → Env0 κ.P κ.w κ.K κ.mg κ.base A outer s H1 → ι <+: ι1 → Keep H H1 → Rep κ ι1 M1 H1 →
    VRs κ ι1 H1 as ws → Vals ws us → OutF κ ι1 H1 Q E (F as M1) → codeAny (model κ.P κ.w) A (.call (.ref f) ⟨us, []⟩) (CR (L2.CX κ.P κ.w) outer κ.P κ.w H1 s Q E) s
/-- what a def keeps -/
structure FnG (κ : Cfg) (k : Nat) (f : Addr) (fd : FuncData) (ps : List Str) (sp : Sp) : Prop where
  len : ∀ vs H Q E, sp vs H Q E → vs.length = ps.length
  run : ∀ (A : Around) (outer : List Env) (s : Shared) (H : Hp) (args : Args) (us : List Value) (vs : List V) (Q : VK) (E : XK), Room k A → A.guards = some [] → Env0 κ.P κ.w κ.K κ.mg κ.base A outer s H → BindsTo s fd args (ps.zip us) → Vals vs us → sp vs H Q E →
    codeAny (model κ.P κ.w) A (.call (.ref f) args) (CR (L2.CX κ.P κ.w) outer κ.P κ.w H s Q E) s
theorem FnG.mono {κ : Cfg} {j k : Nat} {f : Addr} {fd : FuncData} {ps : List Str} {sp : Sp} (F : FnG κ j f fd ps sp) (h : j ≤ k) : FnG κ k f fd ps sp := ⟨F.len, fun A outer s H args us vs Q E hr => F.run A outer s H args us vs Q E (hr.mono h)⟩
/-- a function object stands at f for good -/
def CloAt (κ : Cfg) (H : Hp) (f : Addr) : Prop := (∃ oc od fd sl u, H f = some (.frz ⟨oc, od, .func fd, sl⟩ u)) ∨ ∃ oc od fd sl, κ.K.lookup f = some ⟨oc, od, .func fd, sl⟩
/-- the script: a list of ints that nobody writes -/
def Scr (K : PySem.W.Frag) (H : Hp) (a : Addr) (ns : List Int) : Prop := (∃ o, H a = some (.frz o (.lst (ns.map V.int)))) ∨
  ∃ (o : Obj) (its : Array Value) (n : Nat), K.lookup a = some o ∧ o.cls = .type "list" ∧ o.dict = none ∧ o.data = .seq its n ∧ its.size ≤ sizeLine ∧ Vals (ns.map V.int) its.toList
theorem Scr.sq {K : PySem.W.Frag} {H : Hp} {a : Addr} {ns : List Int} (h : Scr K H a ns) : SqL K H a (ns.map V.int) := h.imp (fun ⟨o, e⟩ => .inr ⟨o, e⟩) id
def SVR (κ : Cfg) (ι : List Addr) (H : Hp) : SV → V → Prop
  | .val a, v => VR κ ι H a v
  | .clo k F, v => ∃ f, v = .ref f ∧ CloAt κ H f ∧ CloOk κ k ι H f F
  | .scr ns, v => ∃ a, v = .ref a ∧ Scr κ.K H a ns
  | .exc c fs, v => ∃ (a : Addr) (oe : Obj) (C : Addr), v = .ref a ∧ H a = some (.frz oe (.own 1)) ∧ oe.cls = .ref C ∧ (∃ vs, oe.data = .fields vs) ∧ κ.mg c = some (.ref C) ∧
    ((oe.dict = none ∧ fs = []) ∨ ∃ (d : Addr) (od : Obj) (gs : List (Str × V)), oe.dict = some d ∧ H d = some (.frz od (.xd gs)) ∧ FR κ ι H fs gs)
structure SLs (κ : Cfg) (ι : List Addr) (H : Hp) (vs : Loc) (σ : St) : Prop where
  len : vs.length = σ.length
  at_ : ∀ (i : Nat) (sv : SV), vs[i]? = some (some sv) → ∃ v, σ[i]? = some (some v) ∧ SVR κ ι H sv v
theorem SVR.mono {κ : Cfg} {ι ι' : List Addr} {H H' : Hp} (hι : ι <+: ι') (k : Keep H H') {sv : SV} {v : V} (h : SVR κ ι H sv v) : SVR κ ι' H' sv v := by
  cases sv with
  | val a => exact VR.mono hι k h
  | clo n F =>
    obtain ⟨f, e, a, c⟩ := h
    exact ⟨f, e, a.imp (fun ⟨oc, od, fd, sl, u, q⟩ => ⟨oc, od, fd, sl, u, k.frz _ _ _ q⟩) id, fun A outer s H1 ι1 M1 as us ws Q E hr gd e0 h1 h2 => c A outer s H1 ι1 M1 as us ws Q E hr gd e0 (hι.trans h1) (k.trans h2)⟩
  | scr ns =>
    obtain ⟨a, e, q⟩ := h
    exact ⟨a, e, q.imp (fun ⟨o, z⟩ => ⟨o, k.frz _ _ _ z⟩) id⟩
  | exc c fs =>
    obtain ⟨a, oe, C, e1, e2, e3, e4, e5, e6⟩ := h
    exact ⟨a, oe, C, e1, k.frz _ _ _ e2, e3, e4, e5, e6.imp id fun ⟨d, od, gs, q1, q2, q3, q4⟩ => ⟨d, od, gs, q1, k.frz _ _ _ q2, q3, q4.mono hι k⟩⟩
theorem SLs.mono {κ : Cfg} {ι ι' : List Addr} {H H' : Hp} (hι : ι <+: ι') (k : Keep H H') {vs : Loc} {σ : St} (h : SLs κ ι H vs σ) : SLs κ ι' H' vs σ :=
  ⟨h.len, fun i sv e => let ⟨v, e', r⟩ := h.at_ i sv e; ⟨v, e', r.mono hι k⟩⟩
/-- the whole state -/
structure Rel (κ : Cfg) (ι : List Addr) (vs : Loc) (M : AH) (σ : St) (H : Hp) : Prop where
  sl : SLs κ ι H vs σ
  rep : Rep κ ι M H
/-! ### readings -/
section
variable (κ : Cfg) (W : WX)
/-- what is wanted behind a computation that began at (ι, H) with the slots vs, σ -/
def Out {α β : Type} (rel : List Addr → Hp → α → β → Prop) (ι : List Addr) (vs : Loc) (σ : St) (H : Hp) (Q : β → Hp → Prop) : R α → Prop
  | .ok a M' => ∀ ι' H' b, ι <+: ι' → Keep H H' → Rel κ ι' vs M' σ H' → rel ι' H' a b → Q b H'
  | .exc c fs M' => ∀ ι' H' C d, ι <+: ι' → Keep H H' → Rel κ ι' vs M' σ H' → ExR κ ι' H' c fs C d → W (.ref C) d σ H'
  | .bad => False
def rd {α β : Type} (rel : List Addr → Hp → α → β → Prop) (c : Loc → AH → R α) : St → Hp → (β → Hp → Prop) → Prop := fun σ H Q =>
  ∃ ι vs M, Rel κ ι vs M σ H ∧ Out κ W rel ι vs σ H Q (c vs M)
abbrev relT : List Addr → Hp → Bool → Bool → Prop := fun _ _ a b => a = b
abbrev rdE (c : CE) : TE := rd κ W (VR κ) c
abbrev rdT (c : CT) : TT := rd κ W relT c
abbrev rdA (c : CA) : TA := rd κ W (VRs κ) c
/-- value-level readings -/
def rd1 (op : AV → AH → R AV) : V → Hp → VK → Prop := fun x H Q => ∃ ι vs M σ a, Rel κ ι vs M σ H ∧ VR κ ι H a x ∧ Out κ W (VR κ) ι vs σ H Q (op a M)
end
section
variable {κ : Cfg} {W : WX} {α α' β β' γ δ : Type} {rel : List Addr → Hp → α → β → Prop} {rel' : List Addr → Hp → α' → β' → Prop}
theorem Out.imp {ι : List Addr} {vs : Loc} {σ : St} {H : Hp} {Q Q' : β → Hp → Prop} {r : R α} (h : Out κ W rel ι vs σ H Q r)
    (k : ∀ ι' H' a b M', ι <+: ι' → Keep H H' → Rel κ ι' vs M' σ H' → rel ι' H' a b → Q b H' → Q' b H') : Out κ W rel ι vs σ H Q' r := by
  cases r with
  | ok a M' => exact fun ι' H' b h1 h2 h3 h4 => k ι' H' a b M' h1 h2 h3 h4 (h ι' H' b h1 h2 h3 h4)
  | exc c fs M' => exact h
  | bad => exact h
/-- one computation, then another one -/
theorem Out.bind {ι : List Addr} {vs : Loc} {σ : St} {H : Hp} {Q : β' → Hp → Prop} {r : R α} {k : α → AH → R α'} (h : Out κ W rel' ι vs σ H Q (r.bind k)) :
    Out κ W rel ι vs σ H (fun b H1 => ∃ ι1 a M1, ι <+: ι1 ∧ Keep H H1 ∧ Rel κ ι1 vs M1 σ H1 ∧ rel ι1 H1 a b ∧ Out κ W rel' ι1 vs σ H1 Q (k a M1)) r := by
  cases r with
  | ok a M' =>
    intro ι' H' b h1 h2 h3 h4
    refine ⟨ι', a, M', h1, h2, h3, h4, ?_⟩
    have h : Out κ W rel' ι vs σ H Q (k a M') := h
    cases hk : k a M' with
    | ok a2 M2 => rw [hk] at h; exact fun ι2 H2 b2 g1 g2 g3 g4 => h ι2 H2 b2 (h1.trans g1) (h2.trans g2) g3 g4
    | exc c fs M2 => rw [hk] at h; exact fun ι2 H2 C d g1 g2 g3 g4 => h ι2 H2 C d (h1.trans g1) (h2.trans g2) g3 g4
    | bad => rw [hk] at h; exact h
  | exc c fs M' => exact h
  | bad => exact h
theorem rd.bind {σ : St} {H : Hp} {Q : β' → Hp → Prop} {c : Loc → AH → R α} {k : Loc → α → AH → R α'} (h : rd κ W rel' (fun vs M => (c vs M).bind (k vs)) σ H Q) :
    rd κ W rel c σ H (fun b H1 => ∃ ι1 vs a M1, Rel κ ι1 vs M1 σ H1 ∧ rel ι1 H1 a b ∧ Out κ W rel' ι1 vs σ H1 Q (k vs a M1)) := by
  obtain ⟨ι, vs, M, R0, o⟩ := h
  refine ⟨ι, vs, M, R0, Out.imp (Out.bind o) fun ι' H' a b M' h1 h2 h3 h4 ⟨ι1, a1, M1, g1, g2, g3, g4, g5⟩ => ⟨ι1, vs, a1, M1, g3, g4, g5⟩⟩
theorem rd.same {σ : St} {H : Hp} {Q : β → Hp → Prop} {c : Loc → AH → R α} {b : β} {ι : List Addr} {vs : Loc} {M : AH} {a : α} (hr : Rel κ ι vs M σ H) (ho : Out κ W rel ι vs σ H Q (.ok a M)) (h : rel ι H a b) : Q b H :=
  ho ι H b (List.prefix_refl _) (Keep.refl _) hr h
end
theorem PE.imp {X : Cx} {e : Expr} {t t' : TE} (h : PE X e t) (k : ∀ σ H Q, t' σ H Q → t σ H Q) : PE X e t' := ⟨fun pins s σ H Q I q => h.run pins s σ H Q I (k σ H Q q)⟩
theorem PT.imp {X : Cx} {e : Expr} {t t' : TT} (h : PT X e t) (k : ∀ σ H Q, t' σ H Q → t σ H Q) : PT X e t' := ⟨fun pins s σ H Q I q => h.run pins s σ H Q I (k σ H Q q)⟩
theorem PA.imp {X : Cx} {e : List Expr} {t t' : TA} (h : PA X e t) (k : ∀ σ H Q, t' σ H Q → t σ H Q) : PA X e t' := ⟨fun pos pins s σ H Q I q => h.run pos pins s σ H Q I (k σ H Q q)⟩
theorem PS.imp {X : Cx} {e : Stmt} {t t' : TS} (h : PS X e t) (k : ∀ D σ H, t' D σ H → t D σ H) : PS X e t' := ⟨fun pins s σ H D I q => h.run pins s σ H D I (k D σ H q)⟩
theorem PSs.imp {X : Cx} {e : List Stmt} {t t' : TS} (h : PSs X e t) (k : ∀ D σ H, t' D σ H → t D σ H) : PSs X e t' := ⟨fun pins s σ H D I q => h.run pins s σ H D I (k D σ H q)⟩
end AM
end

section
set_option Elab.async false
set_option linter.all false
set_option autoImplicit false
set_option maxRecDepth 100000
set_option maxHeartbeats 4000000
/-! AM 2: expressions. -/
namespace AM
open PySem PySem.Spec L2

section
variable {κ : Cfg} {W : WX} {α α' β β' : Type} {rel : List Addr → Hp → α → β → Prop} {rel' : List Addr → Hp → α' → β' → Prop}
theorem rd.imp {σ : L2.St} {H : Hp} {Q Q' : β → Hp → Prop} {c : Loc → AH → R α} (h : rd κ W rel c σ H Q) (k : ∀ b H', Q b H' → Q' b H') : rd κ W rel c σ H Q' := by
  obtain ⟨ι, vs, M, r, o⟩ := h
  exact ⟨ι, vs, M, r, o.imp fun _ _ _ _ _ _ _ _ _ q => k _ _ q⟩
/-- from a state at hand: run c, go on -/
theorem Out.run {ι : List Addr} {vs : Loc} {M : AH} {σ : L2.St} {H : Hp} {Q : β' → Hp → Prop} {c : Loc → AH → R α} {k : α → AH → R α'} {Q1 : β → Hp → Prop} (hr : Rel κ ι vs M σ H)
    (o : Out κ W rel' ι vs σ H Q ((c vs M).bind k))
    (go : ∀ ι1 a M1 b H1, ι <+: ι1 → Keep H H1 → Rel κ ι1 vs M1 σ H1 → rel ι1 H1 a b → Out κ W rel' ι1 vs σ H1 Q (k a M1) → Q1 b H1) : rd κ W rel c σ H Q1 :=
  ⟨ι, vs, M, hr, (Out.bind o).imp fun _ _ _ _ _ _ _ _ _ ⟨ι1, a, M1, h1, h2, h3, h4, h5⟩ => go ι1 a M1 _ _ h1 h2 h3 h4 h5⟩
theorem Out.fin {ι : List Addr} {vs : Loc} {M : AH} {σ : L2.St} {H : Hp} {Q : β → Hp → Prop} {a : α} {b : β} (hr : Rel κ ι vs M σ H) (o : Out κ W rel ι vs σ H Q (.ok a M)) (h : rel ι H a b) : Q b H :=
  o ι H b (List.prefix_refl _) (Keep.refl _) hr h
end
section
variable (κ : Cfg) (W : WX)
def rd2 (op : AV → AV → AH → R AV) : R2 := fun x y H Q => ∃ ι vs M σ a b, Rel κ ι vs M σ H ∧ VR κ ι H a x ∧ VR κ ι H b y ∧ Out κ W (VR κ) ι vs σ H Q (op a b M)
def rdN (op : List AV → AH → R AV) : List V → Hp → VK → Prop := fun xs H Q => ∃ ι vs M σ as, Rel κ ι vs M σ H ∧ VRs κ ι H as xs ∧ Out κ W (VR κ) ι vs σ H Q (op as M)
def rdM (op : AV → List AV → AH → R AV) : V → List V → Hp → VK → Prop := fun x xs H Q => ∃ ι vs M σ a as, Rel κ ι vs M σ H ∧ VR κ ι H a x ∧ VRs κ ι H as xs ∧ Out κ W (VR κ) ι vs σ H Q (op a as M)
end

/-! ### computations -/
def varC (i : Nat) : CE := fun vs M => match vs[i]? with
  | some (some (.val a)) => .ok a M
  | _ => .bad
def conC (a : AV) : CE := fun _ M => .ok a M
def bin2 (op : AV → AV → AH → R AV) (ca cb : CE) : CE := fun vs M => (ca vs M).bind fun a M1 => (cb vs M1).bind fun b M2 => op a b M2
def un1 (op : AV → AH → R AV) (ca : CE) : CE := fun vs M => (ca vs M).bind op
def nilA : CA := fun _ M => .ok [] M
def consA (c : CE) (r : CA) : CA := fun vs M => (c vs M).bind fun a M1 => (r vs M1).bind fun as M2 => .ok (a :: as) M2
def argsC (op : List AV → AH → R AV) (r : CA) : CE := fun vs M => (r vs M).bind op
def methC (op : AV → List AV → AH → R AV) (c : CE) (r : CA) : CE := fun vs M => (c vs M).bind fun a M1 => (r vs M1).bind fun as M2 => op a as M2
def ifC (t : CT) (ca cb : CE) : CE := fun vs M => (t vs M).bind fun b M1 => if b = true then ca vs M1 else cb vs M1
/-- truth -/
def truA (a : AV) (M : AH) : R Bool := match a with
  | .non => .ok false M
  | .bl b => .ok b M
  | .int i => .ok (i != 0) M
  | .str s => if s.length ≤ sizeLine then .ok ((s.length : Int) != 0) M else .bad
  | .tup xs => .ok (!xs.isEmpty) M
  | .ref i => match M[i]? with
    | some (.lst xs) => .ok (!xs.isEmpty) M
    | some (.frz xs) => .ok (!xs.isEmpty) M
    | some (.dct kvs) => .ok (!kvs.isEmpty) M
    | _ => .bad
  | _ => .bad
def truC (c : CE) : CT := fun vs M => (c vs M).bind truA
def andC (a b : CE) : CE := fun vs M => (a vs M).bind fun x M1 => (truA x M1).bind fun k M2 => if k = true then b vs M2 else .ok x M2
def orC (a b : CE) : CE := fun vs M => (a vs M).bind fun x M1 => (truA x M1).bind fun k M2 => if k = true then .ok x M2 else b vs M2
def notC (a : CE) : CE := fun vs M => (a vs M).bind fun x M1 => (truA x M1).bind fun k M2 => .ok (.bl (!k)) M2
def andT (a b : CT) : CT := fun vs M => (a vs M).bind fun k M1 => if k = true then b vs M1 else .ok false M1
def orT (a b : CT) : CT := fun vs M => (a vs M).bind fun k M1 => if k = true then .ok true M1 else b vs M1
def notT (a : CT) : CT := fun vs M => (a vs M).bind fun k M1 => .ok (!k) M1
def tupA (as : List AV) (M : AH) : R AV := if as.length ≤ sizeLine then .ok (.tup as) M else .bad
def lstA (as : List AV) (M : AH) : R AV := if as.length ≤ sizeLine then .ok (.ref M.length) (M ++ [.lst as]) else .bad

/-- the tables of code objects that the law's lambdas are told by -/
class Tb where
  T : List (Addr × Str)
/-! ### the heap's growth -/
section
variable {κ : Cfg} {ι : List Addr} {M : AH} {H : Hp} {vs : Loc} {σ : L2.St}
def HOof : AO → Prop := fun _ => True
theorem OR.mono {ι' : List Addr} {H' : Hp} (hι : ι <+: ι') (k : Keep H H') {o : AO} {a : Addr} (e : H' a = H a) (h : OR κ ι H o a) : OR κ ι' H' o a := by
  cases o with
  | lst xs => obtain ⟨vs, h1, h2⟩ := h; exact ⟨vs, by rw [e]; exact h1, h2.mono hι k⟩
  | frz xs => obtain ⟨o, vs, h1, h2⟩ := h; exact ⟨o, vs, by rw [e]; exact h1, h2.mono hι k⟩
  | ins c fs => obtain ⟨C, dx, gs, h0, h1, h2, h3⟩ := h; exact ⟨C, dx, gs, h0, by rw [e]; exact h1, h2, h3.mono hι k⟩
  | dct kvs =>
    rcases h with ⟨gs, h1, h2⟩ | ⟨ks, h1, h2, hne⟩
    · exact .inl ⟨gs, by rw [e]; exact h1, Paired.mapP h2 fun p q r => ⟨r.1, r.2.mono hι k⟩⟩
    · exact .inr ⟨ks, by rw [e]; exact h1, Paired.mapP h2 fun p q r => ⟨r.1, r.2.1.mono hι k, r.2.2.1, r.2.2.2.mono hι k⟩, hne⟩
theorem OR.there {o : AO} {a : Addr} (h : OR κ ι H o a) : ∃ u, H a = some u := by
  cases o with
  | lst xs => obtain ⟨vs, h1, h2⟩ := h; exact ⟨_, h1⟩
  | frz xs => obtain ⟨o, vs, h1, h2⟩ := h; exact ⟨_, h1⟩
  | ins c fs => obtain ⟨C, dx, gs, h0, h1, h2, h3⟩ := h; exact ⟨_, h1⟩
  | dct kvs =>
    rcases h with ⟨gs, h1, h2⟩ | ⟨ks, h1, h2, hne⟩
    · exact ⟨_, h1⟩
    · exact ⟨_, h1⟩
theorem Rep.idx (r : Rep κ ι M H) {i : Nat} {o : AO} (e : M[i]? = some o) : ∃ a, ι[i]? = some a ∧ OR κ ι H o a := by
  obtain ⟨hi, _⟩ := List.getElem?_eq_some_iff.mp e
  have hi' : i < ι.length := by rw [r.len]; exact hi
  exact ⟨ι[i], List.getElem?_eq_getElem hi', r.obj i o _ e (List.getElem?_eq_getElem hi')⟩
theorem Rep.at_ (r : Rep κ ι M H) {i : Nat} {o : AO} {a : Addr} (e : M[i]? = some o) (ea : ι[i]? = some a) : OR κ ι H o a := r.obj i o a e ea
/-- tuples and the like are new: nothing of ours changes -/
theorem Rep.keep {H' : Hp} (r : Rep κ ι M H) (k : Keep H H') (same : ∀ a u, H a = some u → H' a = H a) : Rep κ ι M H' :=
  ⟨r.len, r.nd, fun i o a e ea => (r.obj i o a e ea).mono (List.prefix_refl _) k (by
    obtain ⟨u, hu⟩ := (r.obj i o a e ea).there
    exact same a u hu), fun p hp => (r.tab p hp).keep k fun ps e => by rw [same _ _ e]; exact e⟩
theorem Rep.fresh {p : Addr} (r : Rep κ ι M H) (hp : H p = none) : p ∉ ι := fun hm => by
  obtain ⟨i, hi⟩ := List.getElem?_of_mem hm
  have hl : i < M.length := by rw [← r.len]; exact (List.getElem?_eq_some_iff.mp hi).1
  obtain ⟨u, hu⟩ := (r.obj i _ p (List.getElem?_eq_getElem hl) hi).there
  rw [hp] at hu; cases hu
/-- a new tuple -/
theorem Rep.other {p : Addr} {o : HO} (r : Rep κ ι M H) (hp : H p = none) : Rep κ ι M (upd H p o) :=
  r.keep (Keep.new hp) fun a u hu => by rw [upd_ne (ne_of_none hu hp)]
/-- a new object of ours -/
theorem Rep.snoc {p : Addr} {u : HO} {o : AO} (r : Rep κ ι M H) (hp : H p = none) (ho : OR κ (ι ++ [p]) (upd H p u) o p) : Rep κ (ι ++ [p]) (M ++ [o]) (upd H p u) := by
  have k : Keep H (upd H p u) := Keep.new hp
  have np := r.fresh hp
  refine ⟨by simp [r.len], ?_, fun i o' a e ea => ?_, fun q hq => (r.tab q hq).keep k fun ps e => by rw [upd_ne (ne_of_none e hp)]; exact e⟩
  · rw [List.nodup_append]
    exact ⟨r.nd, by simp, fun a ha b hb => by
      have : b = p := by simpa using hb
      subst this
      exact fun z => np (z ▸ ha)⟩
  · by_cases hi : i < M.length
    · rw [List.getElem?_append_left hi] at e
      rw [List.getElem?_append_left (by rw [r.len]; exact hi)] at ea
      refine (r.obj i o' a e ea).mono (List.prefix_append _ _) k (upd_ne fun z => np ?_)
      subst z
      exact List.mem_of_getElem? ea
    · have hi' : i = M.length := by
        have := (List.getElem?_eq_some_iff.mp e).1
        simp at this; omega
      subst hi'
      rw [List.getElem?_append_right (Nat.le_refl _)] at e
      rw [List.getElem?_append_right (by rw [r.len]; exact Nat.le_refl _)] at ea
      simp at e
      rw [r.len, Nat.sub_self] at ea
      simp at ea
      subst e; subst ea
      exact ho
/-- an object of ours is written -/
theorem Rep.set {i : Nat} {a : Addr} {u u' : HO} {o' : AO} (r : Rep κ ι M H) (ea : ι[i]? = some a) (hu : H a = some u) (k : Keep H (upd H a u')) (ho : OR κ ι (upd H a u') o' a) (ht : ∀ ps, u ≠ .tbl ps) : Rep κ ι (M.set i o') (upd H a u') := by
  refine ⟨by simp [r.len], r.nd, fun j o b e eb => ?_, fun q hq => (r.tab q hq).keep k fun ps e => by rw [upd_ne (fun z => ht ps (Option.some.inj (hu.symm.trans (by rw [← z]; exact e))))]; exact e⟩
  by_cases hj : j = i
  · subst hj
    have hb : b = a := Option.some.inj (eb.symm.trans ea)
    subst hb
    have hl : j < M.length := by rw [← r.len]; exact (List.getElem?_eq_some_iff.mp ea).1
    rw [List.getElem?_set_self hl] at e
    have e2 : o' = o := Option.some.inj e
    subst e2
    exact ho
  · rw [List.getElem?_set_ne (Ne.symm hj)] at e
    refine (r.obj j o b e eb).mono (List.prefix_refl _) k (upd_ne fun z => hj ?_)
    subst z
    obtain ⟨h1, e1⟩ := List.getElem?_eq_some_iff.mp eb
    obtain ⟨h2, e2⟩ := List.getElem?_eq_some_iff.mp ea
    exact (List.getElem_inj r.nd).mp (e1.trans e2.symm)
theorem Rel.keep {H' : Hp} (r : Rel κ ι vs M σ H) (k : Keep H H') (same : ∀ a u, H a = some u → H' a = H a) : Rel κ ι vs M σ H' := ⟨r.sl.mono (List.prefix_refl _) k, r.rep.keep k same⟩
theorem Rel.other {p : Addr} {o : HO} (r : Rel κ ι vs M σ H) (hp : H p = none) : Rel κ ι vs M σ (upd H p o) := ⟨r.sl.mono (List.prefix_refl _) (Keep.new hp), r.rep.other hp⟩
theorem Rel.snoc {p : Addr} {u : HO} {o : AO} (r : Rel κ ι vs M σ H) (hp : H p = none) (ho : OR κ (ι ++ [p]) (upd H p u) o p) : Rel κ (ι ++ [p]) vs (M ++ [o]) σ (upd H p u) :=
  ⟨r.sl.mono (List.prefix_append _ _) (Keep.new hp), r.rep.snoc hp ho⟩
theorem Rel.set {i : Nat} {a : Addr} {u u' : HO} {o' : AO} (r : Rel κ ι vs M σ H) (ea : ι[i]? = some a) (hu : H a = some u) (k : Keep H (upd H a u')) (ho : OR κ ι (upd H a u') o' a) (ht : ∀ ps, u ≠ .tbl ps) : Rel κ ι vs (M.set i o') σ (upd H a u') :=
  ⟨r.sl.mono (List.prefix_refl _) k, r.rep.set ea hu k ho ht⟩
end

/-! ### rules: names, constants, operators -/
section
variable [Tb] {X : Cx} {W : WX} {e a b : Expr} {es rest : List Expr} {pos p : Pos} {ca cb : CE} {ta tb : CT} {r : CA} {x : Str}
abbrev kf [Tb] (X : Cx) : Cfg := ⟨X.K, X.mg, X.prog, X.w, X.base, Tb.T⟩
abbrev EvE (X : Cx) (W : WX) (e : Expr) (c : CE) : Prop := PE X e (rdE (kf X) W c)
abbrev EvT (X : Cx) (W : WX) (e : Expr) (c : CT) : Prop := PT X e (rdT (kf X) W c)
abbrev EvA (X : Cx) (W : WX) (e : List Expr) (c : CA) : Prop := PA X e (rdA (kf X) W c)
theorem ev_var (i : Nat) (hN : X.N[i]? = some x := by rfl) (hv : Vis X.env.scope x := by first | exact Or.inl rfl | exact Or.inr (Or.inl rfl) | exact Or.inr (Or.inr rfl)) (hd : (x == ("__debug__" : Str)) = false := by decide +kernel)
    (hcd : (x == ("__classdict__" : Str)) = false := by decide +kernel) : EvE X W (.Name x pos) (varC i) :=
  PE.imp (pe_var hN hv hd hcd) fun σ H Q ⟨ι, vs, M, hr, o⟩ => by
    unfold varC at o
    split at o
    · rename_i a e
      obtain ⟨v, ev, rv⟩ := hr.sl.at_ i _ e
      exact ⟨v, ev, Out.fin hr o rv⟩
    · exact o.elim
theorem ev_con {t : TE} {v : V} {c : AV} (h : PE X e (tC v)) (hc : ∀ ι H, VR (kf X) ι H c v) : EvE X W e (conC c) :=
  PE.imp h fun σ H Q ⟨ι, vs, M, hr, o⟩ => Out.fin hr o (hc ι H)
theorem ev_int {i : Int} {j : Nat} : EvE X W (.Constant (.int i) j pos) (conC (.int i)) := ev_con (t := tC (.int i)) pe_int fun _ _ => by rw [VR]
theorem ev_bl {i : Bool} {j : Nat} : EvE X W (.Constant (.bool i) j pos) (conC (.bl i)) := ev_con (t := tC (.bl i)) pe_bl fun _ _ => by rw [VR]
theorem ev_non {j : Nat} : EvE X W (.Constant .none j pos) (conC .non) := ev_con (t := tC .non) pe_non fun _ _ => by rw [VR]
theorem ev_str {z : Str} {j : Nat} : EvE X W (.Constant (.str z) j pos) (conC (.str z)) := ev_con (t := tC (.str z)) pe_str fun _ _ => by rw [VR]
theorem ev_glo {f : Addr} (hg : Gl X x) (hm : X.mg x = some (.ref f)) (hd : (x == ("__debug__" : Str)) = false := by decide +kernel) : EvE X W (.Name x pos) (conC (.glo x)) :=
  ev_con (t := tC (.ref f)) (pe_glob hg hm (v := .ref f) (show Value.ref f = Value.ref f from rfl) hd) fun _ _ => by rw [VR]; exact ⟨f, hm, rfl⟩
/-- two values in a row -/
theorem two_vals {op : AV → AV → AH → R AV} {σ : L2.St} {H : Hp} {Q : VK} (h : rdE (kf X) W (bin2 op ca cb) σ H Q) : rdE (kf X) W ca σ H fun x H1 => rdE (kf X) W cb σ H1 fun y H2 => rd2 (kf X) W op x y H2 Q := by
  obtain ⟨ι, vs, M, hr, o⟩ := h
  refine Out.run hr o fun ι1 a M1 v H1 h1 h2 h3 h4 h5 => ?_
  refine Out.run h3 h5 fun ι2 b M2 w H2 g1 g2 g3 g4 g5 => ?_
  exact ⟨ι2, vs, M2, σ, a, b, g3, h4.mono g1 g2, g4, g5⟩
theorem ev_bin {o : Operator} {op : AV → AV → AH → R AV} (ho : OpR X (binaryOp o) (rd2 (kf X) W op)) (ha : EvE X W a ca) (hb : EvE X W b cb) : EvE X W (.BinOp a o b pos) (bin2 op ca cb) :=
  PE.imp (pe_op ho ha hb) fun σ H Q h => two_vals h
theorem ev_cmp {o : CmpOp} {op : AV → AV → AH → R AV} (ho : OpR X (compareOp o) (rd2 (kf X) W op)) (ha : EvE X W a ca) (hb : EvE X W b cb) (hm : behindInMarks o b = false := by first | exact nomark _ (by decide) (by decide) | rfl) : EvE X W (.Compare a [o] [b] pos) (bin2 op ca cb) :=
  PE.imp (pe_cmpR ho ha hb hm) fun σ H Q h => two_vals h
theorem ev_un {o : UnaryOp} {op : AV → AH → R AV} (ho : UnR X (unaryOp o) (rd1 (kf X) W op)) (ha : EvE X W a ca) : EvE X W (.UnaryOp o a pos) (un1 op ca) :=
  PE.imp (pe_un ho ha) fun σ H Q ⟨ι, vs, M, hr, o⟩ => Out.run hr o fun ι1 a M1 v H1 h1 h2 h3 h4 h5 => ⟨ι1, vs, M1, σ, a, h3, h4, h5⟩

/-! ### dicts with tuple keys: what the library wants -/
section
variable {pins : List (Addr × Obj)} {σ0 : L2.St} {H : Hp} {s : Shared} {ι : List Addr}
mutual
theorem key_is (I : Inv X pins σ0 H s) : ∀ {a : AV} {v : V} {u : Value} {k : NestedKey}, VR (kf X) ι H a v → RelV v u → a.key = some k → NestedIs s.heap k u
  | .non, v, u, k, h, r, e => by rw [VR] at h; subst h; cases r; rw [AV.key] at e; cases e; exact .none
  | .bl b, v, u, k, h, r, e => by rw [VR] at h; subst h; cases r; rw [AV.key] at e; cases e; exact .bool rfl
  | .int i, v, u, k, h, r, e => by rw [VR] at h; subst h; obtain ⟨t, rfl⟩ := r; rw [AV.key] at e; cases e; exact .int _ _
  | .str i, v, u, k, h, r, e => by rw [VR] at h; subst h; obtain ⟨t, rfl⟩ := r; rw [AV.key] at e; cases e; exact .text _ _
  | .tup xs, v, u, k, h, r, e => by
    rw [VR] at h
    obtain ⟨p, vs, rfl, hp, hv⟩ := h
    cases r
    rw [AV.key] at e
    obtain ⟨ks, e1, rfl⟩ := Option.map_eq_some_iff.mp e
    obtain ⟨its, rv, ht, _⟩ := I.tuple hp
    obtain ⟨o, ho, hc, n, hd⟩ := ht
    refine .tup ho hc hd ?_
    have := keys_are I hv rv e1
    simpa using this
  | .ref i, v, u, k, h, r, e => by rw [AV.key] at e; cases e
  | .glo i, v, u, k, h, r, e => by rw [AV.key] at e; cases e
  | .ty i, v, u, k, h, r, e => by rw [AV.key] at e; cases e
theorem keys_are (I : Inv X pins σ0 H s) : ∀ {xs : List AV} {vs : List V} {us : List Value} {ks : List NestedKey}, VRs (kf X) ι H xs vs → Vals vs us → AV.keys xs = some ks → NestedAll s.heap ks us
  | [], vs, us, ks, h, r, e => by
    obtain rfl := h.nil_inv
    cases r
    rw [AV.keys] at e; cases e
    exact .nil
  | x :: xs, vs, us, ks, h, r, e => by
    obtain ⟨v, ws, rfl, h1, h2⟩ := h.cons_inv
    cases r with
    | cons r1 r2 =>
      rw [AV.keys] at e
      split at e
      · rename_i k ks' e1 e2
        cases e
        exact .cons (key_is I h1 r1 e1) (keys_are I h2 r2 e2)
      · cases e
end
abbrev NR : List (NestedKey × Addr × V) → List (NestedKey × Addr × Value) → Prop := Paired (fun (p : NestedKey × Addr × V) (q : NestedKey × Addr × Value) => p.1 = q.1 ∧ p.2.1 = q.2.1 ∧ RelV p.2.2 q.2.2)
theorem nd_at (I : Inv X pins σ0 H s) {a : Addr} {kvs : List (AV × AV)} {ks : List (NestedKey × Addr × V)} (e : H a = some (NdO X.prog X.w a ks)) (t : TR (kf X) ι H kvs ks) :
    (a == sysModules) = false ∧ ks.length ≤ sizeLine ∧ ∃ xs, s.heap.DictOfH (nestedKind X.prog X.w) a xs ∧ NR ks xs := by
  have x := I.hok a _ e
  obtain ⟨⟨h1, h2, o, es, ep, xs, h3, h4, h5, h6, h7, h8⟩, _⟩ := x
  refine ⟨h1, h2, xs, ⟨o, es, ep, h3, h4, h5, h6, fun y hy => ?_, h8⟩, h7⟩
  clear h1 h2 h3 h4 h5 h6 h8 e
  have : ∀ {l1 : List (AV × AV)} {l2 : List (NestedKey × Addr × V)} {l3 : List (NestedKey × Addr × Value)}, TR (kf X) ι H l1 l2 → NR l2 l3 → ∀ y ∈ l3, (nestedKind X.prog X.w).is s.heap y.1 y.2.1 := by
    intro l1 l2 l3 t n
    induction t generalizing l3 with
    | nil => cases n; intro y hy; simp at hy
    | cons r _ ih =>
      cases n with
      | cons q n' =>
        intro y hy
        rcases List.mem_cons.mp hy with e | hy
        · subst e
          obtain ⟨e1, e2, e3⟩ := q
          rw [← e1, ← e2]
          exact ⟨key_is I r.2.1 rfl r.1, r.2.2.1⟩
        · exact ih n' y hy
  exact this t h7 y hy
theorem truthy_dictH {A : Around} {E : Value → Shared → Prop} {d : Addr} {xs : List (NestedKey × Addr × Value)} {Q : Bool → Shared → Prop} (hd : (d == sysModules) = false) (hm : s.heap.DictOfH (nestedKind X.prog X.w) d xs) (hfit : (xs.length : Int) < 2 ^ 63)
    (h : Q (!xs.isEmpty) { s with toks := s.toks + 1 + 1 }) : wpAny (model X.prog X.w) A (truthy (.ref d)) Q E s := by
  have hne : ((xs.length : Int) != 0) = !xs.isEmpty := by cases xs <;> simp <;> omega
  have key : wpAny (model X.prog X.w) A (runValue (.builtin "len" ⟨[.ref d], []⟩)) (fun r s' => r = .int xs.length (s.toks + 1) ∧ Q (!xs.isEmpty) s') E s := by
    refine wpAny_runValue (codeAny_builtin entry_len ?_)
    rw [Around.under_plainId plain_len _]
    exact wpAny_mono (wpAny_len_body_dictH (Q := fun r s' => r = .int xs.length (s.toks + 1) ∧ Q (!xs.isEmpty) s') hd hm hfit ⟨rfl, h⟩)
      (fun fin s' h' => by obtain ⟨r, rfl, hq⟩ := h'; exact hq) fun _ _ e => e
  unfold truthy
  first
    | refine wpAny_bind (wpAny_callSpecial?_none (name := Str.ofString "__bool__") hm.typeIs noBool_dict ?_)
    | refine wpAny_bind (wpAny_pure (wpAny_bind (wpAny_callSpecial?_none (name := Str.ofString "__bool__") hm.typeIs noBool_dict ?_)))
  first
    | refine wpAny_bind (wpAny_specialOf (name := Str.ofString "__len__") hm.typeIs F.slot_dict_len.lookup ?_)
    | refine wpAny_bind (wpAny_pure (wpAny_bind (wpAny_specialOf (name := Str.ofString "__len__") hm.typeIs F.slot_dict_len.lookup ?_)))
  first
    | exact wpAny_bind (wpAny_mono key (fun r s' h' => by obtain ⟨rfl, hq⟩ := h'; exact wpAny_pure (hne ▸ hq)) fun _ _ e => e)
    | exact wpAny_bind (wpAny_pure (wpAny_bind (wpAny_mono key (fun r s' h' => by obtain ⟨rfl, hq⟩ := h'; exact wpAny_pure (hne ▸ hq)) fun _ _ e => e)))
end

/-! ### truth, and, or, not, if -/
def rTru (κ : Cfg) : V → Hp → (Bool → Hp → Prop) → Prop := fun x H Q => ∃ ι vs M σ a k, Rel κ ι vs M σ H ∧ VR κ ι H a x ∧ truA a M = .ok k M ∧ Q k H
theorem tru_all : TruR X (rTru (kf X)) := by
  intro pins s σ0 H x v Q I rx ⟨ι, vs, M, σ, a, k, hr, h, e, q⟩
  have go : TruV X.K x H k → wpAny (model X.prog X.w) X.A (truthy v) (TP X pins σ0 Q) X.xe s := fun t => tru_ok pins s σ0 H x v Q I rx ⟨k, t, q⟩
  cases a with
  | non => rw [VR] at h; subst h; injection e with e1 e2; exact go e1.symm
  | bl b => rw [VR] at h; subst h; injection e with e1 e2; exact go e1.symm
  | int i => rw [VR] at h; subst h; injection e with e1 e2; exact go e1.symm
  | str s =>
    rw [VR] at h; subst h
    unfold truA at e
    dsimp only at e
    split at e
    · rename_i hs
      injection e with e1 e2
      exact go ⟨hs, e1.symm⟩
    · cases e
  | tup xs =>
    rw [VR] at h
    obtain ⟨a, ws, rfl, q, r⟩ := h
    injection e with e1 e2
    refine go (.inr (.inl ⟨ws, q, ?_⟩))
    rw [← e1]
    have := r.length
    cases xs <;> cases ws <;> simp_all
  | ref i =>
    rw [VR] at h
    obtain ⟨p, ei, rfl⟩ := h
    unfold truA at e
    dsimp only at e
    cases q1 : M[i]? with
    | none => rw [q1] at e; cases e
    | some o =>
      rw [q1] at e
      have ho := hr.rep.at_ q1 ei
      cases o with
      | lst xs =>
        obtain ⟨ws, h1, h2⟩ := ho
        injection e with e1 e2
        refine go (.inl ⟨ws, SqL.of h1, ?_⟩)
        rw [← e1]
        have := h2.length
        cases xs <;> cases ws <;> simp_all
      | frz xs =>
        obtain ⟨ob, ws, h1, h2⟩ := ho
        injection e with e1 e2
        refine go (.inl ⟨ws, .inl (.inr ⟨ob, h1⟩), ?_⟩)
        rw [← e1]
        have := h2.length
        cases xs <;> cases ws <;> simp_all
      | dct kvs =>
        injection e with e1 e2
        rcases ho with ⟨gs, h1, h2⟩ | ⟨ks, h1, h2, hne⟩
        · refine go (.inr (.inr ⟨gs, h1, ?_⟩))
          rw [← e1]
          cases h2 <;> rfl
        · cases rx
          obtain ⟨z1, z2, xs, z3, z4⟩ := nd_at I h1 h2
          have l1 := Paired.length h2
          have l2 := Paired.length z4
          have hl := line63
          refine truthy_dictH z1 z3 (by rw [← l2]; omega) ⟨H, I.tok _, ?_⟩
          have : (!xs.isEmpty) = k := by
            rw [← e1]
            cases kvs <;> cases xs <;> simp_all
          rw [this]; exact q
      | ins c fs => cases e
  | glo x => cases e
  | ty n => cases e
theorem truA_cases (a : AV) (M : AH) : (∃ k, truA a M = .ok k M) ∨ truA a M = .bad := by
  unfold truA
  split
  all_goals first | exact .inl ⟨_, rfl⟩ | skip
  · split
    · exact .inl ⟨_, rfl⟩
    · exact .inr rfl
  · split
    all_goals first | exact .inl ⟨_, rfl⟩ | exact .inr rfl
  · exact .inr rfl
theorem tru_out {β : Type} {κ : Cfg} {α : Type} {rel : List Addr → Hp → α → β → Prop} {ι : List Addr} {vs : Loc} {M : AH} {σ : L2.St} {H : Hp} {a : AV} {v : V} {Q : β → Hp → Prop} {k : Bool → AH → R α} {Q' : Bool → Hp → Prop} (hr : Rel κ ι vs M σ H) (h : VR κ ι H a v)
    (o : Out κ W rel ι vs σ H Q ((truA a M).bind k)) (go : ∀ c, Out κ W rel ι vs σ H Q (k c M) → Q' c H) : rTru κ v H Q' := by
  rcases truA_cases a M with ⟨c, e⟩ | e
  · rw [e] at o
    exact ⟨ι, vs, M, σ, a, c, hr, h, e, go c o⟩
  · rw [e] at o
    exact o.elim
section
variable {te tb' : TE} {rt : V → Hp → (Bool → Hp → Prop) → Prop}
theorem pt_tru (hr : TruR X rt) (ha : PE X a te) (he : ∀ whole, isTrue a X.env whole = (do let v ← whole; standAt a.pos; holding [v] (truthy v))) : PT X a (fun σ H Q => te σ H fun x H' => rt x H' Q) := by
  refine ⟨fun pins s σ H Q I h => ?_⟩
  exact PyProof.Rows.isTrue_plain (thn (ha.run pins s σ H _ I h) fun v s1 ⟨x, H1, I1, r1, q1⟩ => hr pins s1 σ H1 x v Q I1 r1 q1) (he _)
theorem pe_andR (hr : TruR X rt) (ha : PE X a te) (hb : PE X (.BoolOp .And (b :: rest) pos) tb') : PE X (.BoolOp .And (a :: b :: rest) pos) (fun σ H Q => te σ H fun x H1 => rt x H1 fun k H2 => H2 = H1 ∧ if k = true then tb' σ H1 Q else Q x H1) := by
  refine ⟨fun pins s σ H Q I h => ?_⟩
  refine PyProof.Rows.BoolOp_and (thn (ha.run pins s σ H _ I h) fun v s1 ⟨x, H1, I1, r1, q1⟩ => ?_)
  refine thn (hr pins s1 σ H1 x v _ I1 r1 q1) fun c s2 ⟨H2, I2, e2, q2⟩ => ?_
  subst e2
  cases c with
  | true => exact hb.run pins s2 σ H2 Q I2 q2
  | false => exact ⟨x, H2, I2, r1, q2⟩
theorem pe_orR (hr : TruR X rt) (ha : PE X a te) (hb : PE X (.BoolOp .Or (b :: rest) pos) tb') : PE X (.BoolOp .Or (a :: b :: rest) pos) (fun σ H Q => te σ H fun x H1 => rt x H1 fun k H2 => H2 = H1 ∧ if k = true then Q x H1 else tb' σ H1 Q) := by
  refine ⟨fun pins s σ H Q I h => ?_⟩
  refine PyProof.Rows.BoolOp_or (thn (ha.run pins s σ H _ I h) fun v s1 ⟨x, H1, I1, r1, q1⟩ => ?_)
  refine thn (hr pins s1 σ H1 x v _ I1 r1 q1) fun c s2 ⟨H2, I2, e2, q2⟩ => ?_
  subst e2
  cases c with
  | true => exact ⟨x, H2, I2, r1, q2⟩
  | false => exact hb.run pins s2 σ H2 Q I2 q2
theorem pe_notR (hr : TruR X rt) (ha : PE X a te) : PE X (.UnaryOp .Not a pos) (fun σ H Q => te σ H fun x H1 => rt x H1 fun k H2 => Q (.bl (!k)) H2) := by
  refine ⟨fun pins s σ H Q I h => ?_⟩
  refine PyProof.Rows.UnaryOp_ (thn (ha.run pins s σ H _ I h) fun v s1 ⟨x, H1, I1, r1, q1⟩ => ?_)
  exact PyProof.Rows.not_of (thn (hr pins s1 σ H1 x v _ I1 r1 q1) fun c s2 ⟨H2, I2, q2⟩ => ⟨.bl (!c), H2, I2, rfl, q2⟩)
end
theorem ev_tru (ha : EvE X W a ca) (he : ∀ whole, isTrue a X.env whole = (do let v ← whole; standAt a.pos; holding [v] (truthy v)) := by intro _; rfl) : EvT X W a (truC ca) :=
  PT.imp (pt_tru tru_all ha he) fun σ H Q ⟨ι, vs, M, hr, o⟩ => Out.run hr o fun ι1 a M1 v H1 h1 h2 h3 h4 h5 => by
    have h5' : Out (kf X) W relT ι1 vs σ H1 Q ((truA a M1).bind fun k M => .ok k M) := by
      have : (truA a M1).bind (fun k M => .ok k M) = truA a M1 := by cases truA a M1 <;> rfl
      rw [this]; exact h5
    exact tru_out h3 h4 h5' fun c o' => Out.fin h3 o' rfl
theorem ev_and1 {o : BoolOp} (ha : EvE X W a ca) : EvE X W (.BoolOp o [a] pos) ca := pe_one ha
theorem ev_and (ha : EvE X W a ca) (hb : EvE X W (.BoolOp .And (b :: rest) pos) cb) : EvE X W (.BoolOp .And (a :: b :: rest) pos) (andC ca cb) :=
  PE.imp (pe_andR tru_all ha hb) fun σ H Q ⟨ι, vs, M, hr, o⟩ => Out.run hr o fun ι1 a M1 v H1 h1 h2 h3 h4 h5 => tru_out h3 h4 h5 fun c o' => by
    refine ⟨rfl, ?_⟩
    cases c with
    | true => rw [if_pos rfl] at o' ⊢; exact ⟨ι1, vs, M1, h3, o'⟩
    | false => rw [if_neg (by decide)] at o' ⊢; exact Out.fin h3 o' h4
theorem ev_or (ha : EvE X W a ca) (hb : EvE X W (.BoolOp .Or (b :: rest) pos) cb) : EvE X W (.BoolOp .Or (a :: b :: rest) pos) (orC ca cb) :=
  PE.imp (pe_orR tru_all ha hb) fun σ H Q ⟨ι, vs, M, hr, o⟩ => Out.run hr o fun ι1 a M1 v H1 h1 h2 h3 h4 h5 => tru_out h3 h4 h5 fun c o' => by
    refine ⟨rfl, ?_⟩
    cases c with
    | true => rw [if_pos rfl] at o' ⊢; exact Out.fin h3 o' h4
    | false => rw [if_neg (by decide)] at o' ⊢; exact ⟨ι1, vs, M1, h3, o'⟩
theorem ev_not (ha : EvE X W a ca) : EvE X W (.UnaryOp .Not a pos) (notC ca) :=
  PE.imp (pe_notR tru_all ha) fun σ H Q ⟨ι, vs, M, hr, o⟩ => Out.run hr o fun ι1 a M1 v H1 h1 h2 h3 h4 h5 => tru_out h3 h4 h5 fun c o' => Out.fin h3 o' (by rw [VR])
/-- tests -/
abbrev EvW (X : Cx) (W : WX) (e : Expr) (c : CT) : Prop := PW X e (rdT (kf X) W c)
theorem PW.imp {t t' : TT} (h : PW X e t) (k : ∀ σ H Q, t' σ H Q → t σ H Q) : PW X e t' := ⟨fun w pins s σ H Q I q => h.run w pins s σ H Q I (k σ H Q q)⟩
theorem et_and1 (ha : EvT X W a ta) : EvW X W (.BoolOp .And [a] pos) ta := pw_and1 ha
theorem et_or1 (ha : EvT X W a ta) : EvW X W (.BoolOp .Or [a] pos) ta := pw_or1 ha
theorem et_and (ha : EvT X W a ta) (hb : EvW X W (.BoolOp .And (b :: rest) pos) tb) : EvW X W (.BoolOp .And (a :: b :: rest) pos) (andT ta tb) :=
  PW.imp (pw_and ha hb) fun σ H Q ⟨ι, vs, M, hr, o⟩ => Out.run hr o fun ι1 a M1 v H1 h1 h2 h3 h4 h5 => by
    subst h4
    cases a with
    | true => rw [if_pos rfl] at h5 ⊢; exact ⟨ι1, vs, M1, h3, h5⟩
    | false => rw [if_neg (by decide)] at h5 ⊢; exact Out.fin h3 h5 rfl
theorem et_or (ha : EvT X W a ta) (hb : EvW X W (.BoolOp .Or (b :: rest) pos) tb) : EvW X W (.BoolOp .Or (a :: b :: rest) pos) (orT ta tb) :=
  PW.imp (pw_or ha hb) fun σ H Q ⟨ι, vs, M, hr, o⟩ => Out.run hr o fun ι1 a M1 v H1 h1 h2 h3 h4 h5 => by
    subst h4
    cases a with
    | true => rw [if_pos rfl] at h5 ⊢; exact Out.fin h3 h5 rfl
    | false => rw [if_neg (by decide)] at h5 ⊢; exact ⟨ι1, vs, M1, h3, h5⟩
theorem et_w (h : EvW X W a ta) : EvT X W a ta := PW.pt h
theorem et_not (ha : EvT X W a ta) : EvT X W (.UnaryOp .Not a pos) (notT ta) :=
  PT.imp (pt_not ha) fun σ H Q ⟨ι, vs, M, hr, o⟩ => Out.run hr o fun ι1 a M1 v H1 h1 h2 h3 h4 h5 => by
    subst h4
    exact Out.fin h3 h5 rfl
/-- a comparison as a test -/
def tstA (a : AV) (M : AH) : R Bool := match a with
  | .bl b => .ok b M
  | _ => .bad
def cmpT (op : AV → AV → AH → R AV) (ca cb : CE) : CT := fun vs M => (ca vs M).bind fun a M1 => (cb vs M1).bind fun b M2 => (op a b M2).bind tstA
theorem et_cmp {o : CmpOp} {op : AV → AV → AH → R AV} (ho : OpR X (compareOp o) (rd2 (kf X) W op)) (ha : EvE X W a ca) (hb : EvE X W b cb) (hm : behindInMarks o b = false := by first | exact nomark _ (by decide) (by decide) | rfl) : EvT X W (.Compare a [o] [b] pos) (cmpT op ca cb) :=
  PT.imp (pt_cmpR ho ha hb hm) fun σ H Q ⟨ι, vs, M, hr, o⟩ => Out.run hr o fun ι1 a M1 v H1 h1 h2 h3 h4 h5 => by
    refine Out.run h3 h5 fun ι2 b M2 w H2 g1 g2 g3 g4 g5 => ?_
    refine ⟨ι2, vs, M2, σ, a, b, g3, h4.mono g1 g2, g4, (Out.bind g5).imp fun ι' H' z v' M' k1 k2 k3 k4 ⟨ι3, a3, M3, p1, p2, p3, p4, p5⟩ => ?_⟩
    cases a3 with
    | bl c =>
      rw [VR] at p4
      exact ⟨c, p4, Out.fin p3 p5 rfl⟩
    | _ => exact p5.elim
theorem ev_if {c : Expr} (hc : EvT X W c ta) (ha : EvE X W a ca) (hb : EvE X W b cb) : EvE X W (.IfExp c a b pos) (ifC ta ca cb) :=
  PE.imp (pe_ifExp hc ha hb) fun σ H Q ⟨ι, vs, M, hr, o⟩ => Out.run hr o fun ι1 a M1 v H1 h1 h2 h3 h4 h5 => by
    subst h4
    cases a with
    | true => rw [if_pos rfl] at h5 ⊢; exact ⟨ι1, vs, M1, h3, h5⟩
    | false => rw [if_neg (by decide)] at h5 ⊢; exact ⟨ι1, vs, M1, h3, h5⟩

/-! ### arguments, displays, calls of built-ins -/
theorem ea_nil : EvA X W [] nilA := PA.imp pa_nil fun σ H Q ⟨ι, vs, M, hr, o⟩ => Out.fin hr o .nil
theorem ea_cons (ha : EvE X W e ca) (hr : EvA X W es r) (hs : starEach (e :: es) X.env = (false, eval e X.env) :: starEach es X.env := by rfl) : EvA X W (e :: es) (consA ca r) :=
  PA.imp (pa_cons ha hr hs) fun σ H Q ⟨ι, vs, M, hr, o⟩ => Out.run hr o fun ι1 a M1 v H1 h1 h2 h3 h4 h5 => Out.run h3 h5 fun ι2 as M2 ws H2 g1 g2 g3 g4 g5 => Out.fin g3 g5 (.cons (h4.mono g1 g2) g4)
theorem ev_tup {k : Nat} (h : EvA X W es r) : EvE X W (.Tuple es k pos) (argsC tupA r) :=
  PE.imp (pe_tup h) fun σ H Q ⟨ι, vs, M, hr, o⟩ => Out.run hr o fun ι1 as M1 ws H1 h1 h2 h3 h4 h5 => by
    unfold tupA at h5
    split at h5
    · rename_i hl
      refine ⟨by rw [← h4.length]; exact hl, fun p hp => ?_⟩
      refine h5 ι1 _ _ (List.prefix_refl _) (Keep.new hp) (h3.other hp) ?_
      rw [VR]
      exact ⟨p, ws, rfl, SqT.of upd_same, h4.mono (List.prefix_refl _) (Keep.new hp)⟩
    · exact h5.elim
theorem ev_lst (h : EvA X W es r) : EvE X W (.List es pos) (argsC lstA r) :=
  PE.imp (pe_lst h) fun σ H Q ⟨ι, vs, M, hr, o⟩ => Out.run hr o fun ι1 as M1 ws H1 h1 h2 h3 h4 h5 => by
    unfold lstA at h5
    split at h5
    · rename_i hl
      refine ⟨by rw [← h4.length]; exact hl, fun p hp => ?_⟩
      have hk := Keep.new (o := .lst ws) hp
      refine h5 (ι1 ++ [p]) _ _ (List.prefix_append _ _) hk (h3.snoc hp ⟨ws, upd_same, h4.mono (List.prefix_append _ _) hk⟩) ?_
      rw [VR]
      refine ⟨p, ?_, rfl⟩
      rw [← h3.rep.len]
      simp
    · exact h5.elim
theorem ev_callB {id : String} {op : List AV → AH → R AV} (hc : CallR X (.builtin id) (rdN (kf X) W op)) (hg : Gl X x) (hm : X.mg x = none) (hv : bootBuiltins x = some (.builtin id)) (ha : EvA X W (e :: es) r) (hn : x ≠ "__name__" := by decide +kernel)
    (hdb : (x == ("__debug__" : Str)) = false := by decide +kernel) (he : starEach (e :: es) X.env = (false, eval e X.env) :: starEach es X.env := by rfl) (hpl : (backTo pos (starEach es X.env)).any (·.1) = false := by rfl) :
    EvE X W (.Call (.Name x p) (e :: es) [] pos) (argsC op r) :=
  PE.imp (pe_callB hc hg hm hv ha hn hdb he hpl) fun σ H Q ⟨ι, vs, M, hr, o⟩ => Out.run hr o fun ι1 as M1 ws H1 h1 h2 h3 h4 h5 => ⟨ι1, vs, M1, σ, as, h3, h4, h5⟩
theorem ev_callTy {T : String} {op : List AV → AH → R AV} (hc : CallR X (.type T) (rdN (kf X) W op)) (hg : Gl X x) (hm : X.mg x = none) (hv : bootBuiltins x = some (.type T)) (ha : EvA X W (e :: es) r) (hn : x ≠ "__name__" := by decide +kernel)
    (hdb : (x == ("__debug__" : Str)) = false := by decide +kernel) (he : starEach (e :: es) X.env = (false, eval e X.env) :: starEach es X.env := by rfl) (hpl : (backTo pos (starEach es X.env)).any (·.1) = false := by rfl) :
    EvE X W (.Call (.Name x p) (e :: es) [] pos) (argsC op r) :=
  PE.imp (pe_callTy hc hg hm hv ha hn hdb he hpl) fun σ H Q ⟨ι, vs, M, hr, o⟩ => Out.run hr o fun ι1 as M1 ws H1 h1 h2 h3 h4 h5 => ⟨ι1, vs, M1, σ, as, h3, h4, h5⟩
end
end AM
end

section
set_option Elab.async false
set_option linter.all false
set_option autoImplicit false
set_option maxRecDepth 100000
set_option maxHeartbeats 4000000
/-! AM 3: operators by values. -/
namespace AM
open PySem PySem.Spec L2

/-! ### what the operators compute -/
def newL (xs : List AV) (M : AH) : R AV := if xs.length ≤ sizeLine then .ok (.ref M.length) (M ++ [.lst xs]) else .bad
def opAdd (a b : AV) (M : AH) : R AV := match a, b with
  | .int i, .int j => .ok (.int (i + j)) M
  | .str s, .str t => if s.length + t.length ≤ sizeLine then .ok (.str (s ++ t)) M else .bad
  | .tup xs, .tup ys => if xs.length + ys.length ≤ sizeLine then .ok (.tup (xs ++ ys)) M else .bad
  | .ref i, .ref j => match M[i]?, M[j]? with
    | some (.lst xs), some (.lst ys) => newL (xs ++ ys) M
    | _, _ => .bad
  | _, _ => .bad
def opSub (a b : AV) (M : AH) : R AV := match a, b with
  | .int i, .int j => .ok (.int (i - j)) M
  | _, _ => .bad
def opMul (a b : AV) (M : AH) : R AV := match a, b with
  | .int i, .int j => if i.natAbs.log2 + j.natAbs.log2 < 1000000 then .ok (.int (i * j)) M else .bad
  | .ref i, .int k => match M[i]? with
    | some (.lst xs) => if k < 2 ^ 62 ∧ -(2 ^ 62) < k then newL (List.replicate k.toNat xs).flatten M else .bad
    | _ => .bad
  | _, _ => .bad
def opDiv (a b : AV) (M : AH) : R AV := match a, b with
  | .int i, .int j => if 0 < j ∧ j.natAbs.log2 < 9000 then .ok (.int (i / j)) M else if j < 0 ∧ j.natAbs < 1073741824 then .ok (.int (i.fdiv j)) M else .bad
  | _, _ => .bad
def opMod (a b : AV) (M : AH) : R AV := match a, b with
  | .int i, .int j => if 0 < j then .ok (.int (i % j)) M else if j < 0 then .ok (.int (i.fmod j)) M else .bad
  | _, _ => .bad
def opPow (a b : AV) (M : AH) : R AV := match a, b with
  | .int i, .int j => if 0 ≤ j ∧ j ≤ 1000000 ∧ i.natAbs < 2 ^ 64 then .ok (.int (i ^ j.toNat)) M else .bad
  | _, _ => .bad
def opNeg (a : AV) (M : AH) : R AV := match a with
  | .int i => .ok (.int (-i)) M
  | _ => .bad
def opLt (a b : AV) (M : AH) : R AV := match a, b with
  | .int i, .int j => .ok (.bl (decide (i < j))) M
  | _, _ => .bad
def opLe (a b : AV) (M : AH) : R AV := match a, b with
  | .int i, .int j => .ok (.bl (decide (i ≤ j))) M
  | _, _ => .bad
def opGt (a b : AV) (M : AH) : R AV := match a, b with
  | .int i, .int j => .ok (.bl (decide (j < i))) M
  | _, _ => .bad
def opGe (a b : AV) (M : AH) : R AV := match a, b with
  | .int i, .int j => .ok (.bl (decide (j ≤ i))) M
  | _, _ => .bad
/-- data: lists by what stands in the heap -/
def datAll (f : AV → Option PyData) : List AV → Option (List PyData)
  | [] => some []
  | x :: xs => match f x, datAll f xs with
    | some d, some ds => some (d :: ds)
    | _, _ => none
def dat (M : AH) : Nat → AV → Option PyData
  | 0, _ => none
  | n + 1, a => match a with
    | .non => some .none
    | .bl b => some (.bool b)
    | .int i => some (.int i)
    | .str s => some (.str s)
    | .tup xs => (datAll (dat M n) xs).map .tuple
    | .ref i => match M[i]? with
      | some (.lst xs) => (datAll (dat M n) xs).map .list
      | some (.frz xs) => (datAll (dat M n) xs).map .list
      | _ => none
    | _ => none
def datS (M : AH) (a : AV) : Option PyData := match dat M 40 a with
  | some d => if SeqAt.shaped d = true then some d else none
  | none => none
def opEq (a b : AV) (M : AH) : R AV := match datS M a, datS M b with
  | some d, some e => .ok (.bl (PyData.eqv d e)) M
  | _, _ => .bad
def opNe (a b : AV) (M : AH) : R AV := match datS M a, datS M b with
  | some d, some e => .ok (.bl (!PyData.eqv d e)) M
  | _, _ => .bad
def isNon : AV → Bool
  | .non => true
  | _ => false
def opIs (a b : AV) (M : AH) : R AV := match b with
  | .non => .ok (.bl (isNon a)) M
  | _ => .bad
def opIsN (a b : AV) (M : AH) : R AV := match b with
  | .non => .ok (.bl (!isNon a)) M
  | _ => .bad

/-! ### they are what the machine does -/
section
variable {X : Cx} {W : WX}
theorem vr_int {κ : Cfg} {ι : List Addr} {H : Hp} {i : Int} {v : V} : VR κ ι H (.int i) v ↔ v = .int i := by rw [VR]
theorem vr_bl {κ : Cfg} {ι : List Addr} {H : Hp} {i : Bool} {v : V} : VR κ ι H (.bl i) v ↔ v = .bl i := by rw [VR]
theorem vr_str {κ : Cfg} {ι : List Addr} {H : Hp} {i : Str} {v : V} : VR κ ι H (.str i) v ↔ v = .str i := by rw [VR]
theorem vr_non {κ : Cfg} {ι : List Addr} {H : Hp} {v : V} : VR κ ι H .non v ↔ v = .non := by rw [VR]
theorem vr_tup {κ : Cfg} {ι : List Addr} {H : Hp} {xs : List AV} {v : V} : VR κ ι H (.tup xs) v ↔ ∃ a vs, v = .ref a ∧ SqT κ.K H a vs ∧ VRs κ ι H xs vs := by rw [VR]
theorem vr_ref {κ : Cfg} {ι : List Addr} {H : Hp} {i : Nat} {v : V} : VR κ ι H (.ref i) v ↔ ∃ a, ι[i]? = some a ∧ v = .ref a := by rw [VR]
theorem vr_glo {κ : Cfg} {ι : List Addr} {H : Hp} {x : Str} {v : V} : VR κ ι H (.glo x) v ↔ ∃ f, κ.mg x = some (.ref f) ∧ v = .ref f := by rw [VR]
theorem vr_ty {κ : Cfg} {ι : List Addr} {H : Hp} {x : String} {v : V} : VR κ ι H (.ty x) v ↔ v = .ty x := by rw [VR]
/-- a new list of ours -/
theorem Out.newL {ι : List Addr} {vs : Loc} {M : AH} {σ : L2.St} {H : Hp} {Q : VK} {xs : List AV} {ws : List V} {κ : Cfg} (hr : Rel κ ι vs M σ H) (hx : VRs κ ι H xs ws) (o : Out κ W (VR κ) ι vs σ H Q (newL xs M)) :
    ws.length ≤ sizeLine ∧ ∀ p, H p = none → Q (.ref p) (upd H p (.lst ws)) := by
  unfold AM.newL at o
  split at o
  · rename_i hl
    refine ⟨by rw [← hx.length]; exact hl, fun p hp => ?_⟩
    have hk := Keep.new (o := .lst ws) hp
    refine o (ι ++ [p]) _ _ (List.prefix_append _ _) hk (hr.snoc hp ⟨ws, upd_same, hx.mono (List.prefix_append _ _) hk⟩) ?_
    rw [vr_ref]
    refine ⟨p, ?_, rfl⟩
    rw [← hr.rep.len]
    simp
  · exact o.elim
/-- a new tuple -/
theorem Out.newT {ι : List Addr} {vs : Loc} {M : AH} {σ : L2.St} {H : Hp} {Q : VK} {xs : List AV} {ws : List V} {κ : Cfg} (hr : Rel κ ι vs M σ H) (hx : VRs κ ι H xs ws) (o : Out κ W (VR κ) ι vs σ H Q (.ok (.tup xs) M)) :
    ∀ p, H p = none → Q (.ref p) (upd H p (.tup ws)) := fun p hp => by
  refine o ι _ _ (List.prefix_refl _) (Keep.new hp) (hr.other hp) ?_
  rw [vr_tup]
  exact ⟨p, ws, rfl, SqT.of upd_same, hx.mono (List.prefix_refl _) (Keep.new hp)⟩
end
section
variable [Tb] {X : Cx} {W : WX}
theorem ok_add : OpR X (binaryOp .Add) (rd2 (kf X) W opAdd) := by
  intro pins s σ0 H x y v u Q I rx ry ⟨ι, vs, M, σ, a, b, hr, ha, hb, o⟩
  unfold opAdd at o
  split at o
  · rw [vr_int] at ha hb
    exact op_add pins s σ0 H x y v u Q I rx ry ⟨_, _, ha, hb, Out.fin hr o (by rw [vr_int])⟩
  · split at o
    · rename_i hl
      rw [vr_str] at ha hb
      exact op_add_str pins s σ0 H x y v u Q I rx ry ⟨_, _, ha, hb, hl, Out.fin hr o (by rw [vr_str])⟩
    · exact o.elim
  · split at o
    · rename_i xs ys hl
      rw [vr_tup] at ha hb
      obtain ⟨p, us, rfl, hp, hus⟩ := ha
      obtain ⟨q, ws, rfl, hq, hws⟩ := hb
      refine op_catA pins s σ0 H _ _ v u Q I rx ry ⟨p, q, us, ws, rfl, rfl, hp, hq, by rw [← hus.length, ← hws.length]; exact hl, fun e => ?_, fun _ e => ?_, fun _ _ => ?_⟩
      · refine Out.fin hr o ?_
        rw [vr_tup]
        exact ⟨q, ws, rfl, hq, by have := hus.app hws; rwa [e] at this⟩
      · refine Out.fin hr o ?_
        rw [vr_tup]
        exact ⟨p, us, rfl, hp, by have := hus.app hws; rwa [e, List.append_nil] at this⟩
      · exact Out.newT hr (hus.app hws) o
    · exact o.elim
  · rename_i i j
    rw [vr_ref] at ha hb
    obtain ⟨p, ei, rfl⟩ := ha
    obtain ⟨q, ej, rfl⟩ := hb
    split at o
    · rename_i xs ys h1 h2
      obtain ⟨us, a1, a2⟩ := hr.rep.at_ h1 ei
      obtain ⟨ws, b1, b2⟩ := hr.rep.at_ h2 ej
      obtain ⟨z, n⟩ := Out.newL hr (a2.app b2) o
      exact op_cat pins s σ0 H _ _ v u Q I rx ry ⟨p, q, us, ws, rfl, rfl, a1, b1, by rw [← List.length_append]; exact z, n⟩
    · exact o.elim
  · exact o.elim
theorem ok_sub : OpR X (binaryOp .Sub) (rd2 (kf X) W opSub) := by
  intro pins s σ0 H x y v u Q I rx ry ⟨ι, vs, M, σ, a, b, hr, ha, hb, o⟩
  unfold opSub at o
  split at o
  · rw [vr_int] at ha hb
    exact op_sub pins s σ0 H x y v u Q I rx ry ⟨_, _, ha, hb, Out.fin hr o (by rw [vr_int])⟩
  · exact o.elim
theorem ok_mul : OpR X (binaryOp .Mult) (rd2 (kf X) W opMul) := by
  intro pins s σ0 H x y v u Q I rx ry ⟨ι, vs, M, σ, a, b, hr, ha, hb, o⟩
  unfold opMul at o
  split at o
  · split at o
    · rename_i hl
      rw [vr_int] at ha hb
      exact op_mulW pins s σ0 H x y v u Q I rx ry ⟨_, _, ha, hb, hl, Out.fin hr o (by rw [vr_int])⟩
    · exact o.elim
  · rename_i i k
    rw [vr_ref] at ha
    rw [vr_int] at hb
    obtain ⟨p, ei, rfl⟩ := ha
    split at o
    · rename_i xs h1
      split at o
      · rename_i hk
        obtain ⟨us, a1, a2⟩ := hr.rep.at_ h1 ei
        have hrep : ∀ n : Nat, VRs (kf X) ι H (List.replicate n xs).flatten (List.replicate n us).flatten := by
          intro n
          induction n with
          | zero => simpa using VRs.nil
          | succ n ih => rw [List.replicate_succ, List.replicate_succ, List.flatten_cons, List.flatten_cons]; exact a2.app ih
        obtain ⟨z, n⟩ := Out.newL hr (hrep k.toNat) o
        refine op_rep pins s σ0 H _ _ v u Q I rx ry ⟨p, k, us, rfl, hb, a1, by omega, by omega, ?_, n⟩
        have : (List.replicate k.toNat us).flatten.length = us.length * k.toNat := by simp [Nat.mul_comm]
        omega
      · exact o.elim
    · exact o.elim
  · exact o.elim
theorem ok_div : OpR X (binaryOp .FloorDiv) (rd2 (kf X) W opDiv) := by
  intro pins s σ0 H x y v u Q I rx ry ⟨ι, vs, M, σ, a, b, hr, ha, hb, o⟩
  unfold opDiv at o
  split at o
  · rw [vr_int] at ha hb
    split at o
    · rename_i hl
      exact op_fdivW pins s σ0 H x y v u Q I rx ry ⟨_, _, ha, hb, hl, Out.fin hr o (by rw [vr_int])⟩
    · split at o
      · rename_i hl
        exact op_fdivN pins s σ0 H x y v u Q I rx ry ⟨_, _, ha, hb, ⟨by omega, hl.2⟩, Out.fin hr o (by rw [vr_int])⟩
      · exact o.elim
  · exact o.elim
theorem ok_mod : OpR X (binaryOp .Mod) (rd2 (kf X) W opMod) := by
  intro pins s σ0 H x y v u Q I rx ry ⟨ι, vs, M, σ, a, b, hr, ha, hb, o⟩
  unfold opMod at o
  split at o
  · rw [vr_int] at ha hb
    split at o
    · rename_i hl
      exact op_mod pins s σ0 H x y v u Q I rx ry ⟨_, _, ha, hb, hl, Out.fin hr o (by rw [vr_int])⟩
    · split at o
      · rename_i hl
        exact op_modN pins s σ0 H x y v u Q I rx ry ⟨_, _, ha, hb, by omega, Out.fin hr o (by rw [vr_int])⟩
      · exact o.elim
  · exact o.elim
theorem ok_pow : OpR X (binaryOp .Pow) (rd2 (kf X) W opPow) := by
  intro pins s σ0 H x y v u Q I rx ry ⟨ι, vs, M, σ, a, b, hr, ha, hb, o⟩
  unfold opPow at o
  split at o
  · rw [vr_int] at ha hb
    split at o
    · rename_i hl
      exact op_pow pins s σ0 H x y v u Q I rx ry ⟨_, _, ha, hb, hl, Out.fin hr o (by rw [vr_int])⟩
    · exact o.elim
  · exact o.elim
theorem ok_neg : UnR X (unaryOp .USub) (rd1 (kf X) W opNeg) := by
  intro pins s σ0 H x v Q I rx ⟨ι, vs, M, σ, a, hr, ha, o⟩
  unfold opNeg at o
  split at o
  · rw [vr_int] at ha
    exact un_neg pins s σ0 H x v Q I rx ⟨_, ha, Out.fin hr o (by rw [vr_int])⟩
  · exact o.elim
theorem ok_lt : OpR X (compareOp .Lt) (rd2 (kf X) W opLt) := by
  intro pins s σ0 H x y v u Q I rx ry ⟨ι, vs, M, σ, a, b, hr, ha, hb, o⟩
  unfold opLt at o
  split at o
  · rw [vr_int] at ha hb
    exact op_lt pins s σ0 H x y v u Q I rx ry ⟨_, _, ha, hb, Out.fin hr o (by rw [vr_bl])⟩
  · exact o.elim
theorem ok_le : OpR X (compareOp .LtE) (rd2 (kf X) W opLe) := by
  intro pins s σ0 H x y v u Q I rx ry ⟨ι, vs, M, σ, a, b, hr, ha, hb, o⟩
  unfold opLe at o
  split at o
  · rw [vr_int] at ha hb
    exact op_le pins s σ0 H x y v u Q I rx ry ⟨_, _, ha, hb, Out.fin hr o (by rw [vr_bl])⟩
  · exact o.elim
theorem ok_gt : OpR X (compareOp .Gt) (rd2 (kf X) W opGt) := by
  intro pins s σ0 H x y v u Q I rx ry ⟨ι, vs, M, σ, a, b, hr, ha, hb, o⟩
  unfold opGt at o
  split at o
  · rw [vr_int] at ha hb
    exact op_gt pins s σ0 H x y v u Q I rx ry ⟨_, _, ha, hb, Out.fin hr o (by rw [vr_bl])⟩
  · exact o.elim
theorem ok_ge : OpR X (compareOp .GtE) (rd2 (kf X) W opGe) := by
  intro pins s σ0 H x y v u Q I rx ry ⟨ι, vs, M, σ, a, b, hr, ha, hb, o⟩
  unfold opGe at o
  split at o
  · rw [vr_int] at ha hb
    exact op_ge pins s σ0 H x y v u Q I rx ry ⟨_, _, ha, hb, Out.fin hr o (by rw [vr_bl])⟩
  · exact o.elim
theorem isNon_of {κ : Cfg} {ι : List Addr} {H : Hp} {a : AV} {v : V} (h : VR κ ι H a v) : decide (v = .non) = isNon a := by
  cases a with
  | non => rw [vr_non] at h; subst h; rfl
  | bl b => rw [vr_bl] at h; subst h; rfl
  | int b => rw [vr_int] at h; subst h; rfl
  | str b => rw [vr_str] at h; subst h; rfl
  | tup b => rw [vr_tup] at h; obtain ⟨a, vs, rfl, _⟩ := h; rfl
  | ref b => rw [vr_ref] at h; obtain ⟨a, _, rfl⟩ := h; rfl
  | glo b => rw [vr_glo] at h; obtain ⟨a, _, rfl⟩ := h; rfl
  | ty b => rw [vr_ty] at h; subst h; rfl
theorem ok_is : OpR X (compareOp .Is) (rd2 (kf X) W opIs) := by
  intro pins s σ0 H x y v u Q I rx ry ⟨ι, vs, M, σ, a, b, hr, ha, hb, o⟩
  unfold opIs at o
  split at o
  · rw [vr_non] at hb
    exact op_isN pins s σ0 H x y v u Q I rx ry ⟨hb, by rw [isNon_of ha]; exact Out.fin hr o (by rw [vr_bl])⟩
  · exact o.elim
theorem ok_isn : OpR X (compareOp .IsNot) (rd2 (kf X) W opIsN) := by
  intro pins s σ0 H x y v u Q I rx ry ⟨ι, vs, M, σ, a, b, hr, ha, hb, o⟩
  unfold opIsN at o
  split at o
  · rw [vr_non] at hb
    exact op_notN pins s σ0 H x y v u Q I rx ry ⟨hb, by rw [isNon_of ha]; exact Out.fin hr o (by rw [vr_bl])⟩
  · exact o.elim
/-- data of ours are data of theirs -/
theorem datAll_dp {κ : Cfg} {ι : List Addr} {H : Hp} {f : AV → Option PyData} (hf : ∀ a d v, f a = some d → VR κ ι H a v → Dp κ.K H v d) : ∀ {xs : List AV} {ds : List PyData} {vs : List V}, datAll f xs = some ds → VRs κ ι H xs vs → DpAll κ.K H vs ds
  | [], ds, vs, e, h => by
    rw [h.nil_inv]
    have : ds = [] := by simpa [datAll] using e.symm
    subst this
    exact .nil
  | x :: xs, ds, vs, e, h => by
    obtain ⟨v, ws, rfl, r, q⟩ := h.cons_inv
    unfold datAll at e
    split at e
    · rename_i d ds' h1 h2
      have : ds = d :: ds' := (Option.some.inj e).symm
      subst this
      exact .cons (hf _ _ _ h1 r) (datAll_dp hf h2 q)
    · cases e
theorem dat_dp {κ : Cfg} {ι : List Addr} {M : AH} {H : Hp} (hr : Rep κ ι M H) : ∀ (n : Nat) (a : AV) (d : PyData) (v : V), dat M n a = some d → VR κ ι H a v → Dp κ.K H v d
  | 0, a, d, v, e, _ => by cases e
  | n + 1, a, d, v, e, h => by
    unfold dat at e
    split at e
    · rw [vr_non] at h; subst h; cases e; exact .non
    · rw [vr_bl] at h; subst h; cases e; exact .bl _
    · rw [vr_int] at h; subst h; cases e; exact .int _
    · rw [vr_str] at h; subst h; cases e; exact .str _
    · rw [vr_tup] at h
      obtain ⟨p, ws, rfl, hp, hw⟩ := h
      obtain ⟨ds, e1, rfl⟩ := Option.map_eq_some_iff.mp e
      exact .tup hp (datAll_dp (dat_dp hr n) e1 hw)
    · rw [vr_ref] at h
      obtain ⟨p, ei, rfl⟩ := h
      split at e
      · rename_i xs q
        obtain ⟨ws, h1, h2⟩ := hr.at_ q ei
        obtain ⟨ds, e1, rfl⟩ := Option.map_eq_some_iff.mp e
        exact .lst (SqL.of h1) (datAll_dp (dat_dp hr n) e1 h2)
      · rename_i xs q
        obtain ⟨ob, ws, h1, h2⟩ := hr.at_ q ei
        obtain ⟨ds, e1, rfl⟩ := Option.map_eq_some_iff.mp e
        exact .lst (.inl (.inr ⟨ob, h1⟩)) (datAll_dp (dat_dp hr n) e1 h2)
      · cases e
    · cases e
theorem datS_dp {κ : Cfg} {ι : List Addr} {M : AH} {H : Hp} (hr : Rep κ ι M H) {a : AV} {d : PyData} {v : V} (e : datS M a = some d) (h : VR κ ι H a v) : Dp κ.K H v d ∧ SeqAt.shaped d = true := by
  unfold datS at e
  split at e
  · rename_i d' e'
    split at e
    · rename_i hs
      cases e
      exact ⟨dat_dp hr _ _ _ _ e' h, hs⟩
    · cases e
  · cases e
theorem ok_eq (hu : X.A.units + 64 < cLine) : OpR X (compareOp .Eq) (rd2 (kf X) W opEq) := by
  intro pins s σ0 H x y v u Q I rx ry ⟨ι, vs, M, σ, a, b, hr, ha, hb, o⟩
  unfold opEq at o
  split at o
  · rename_i d e h1 h2
    obtain ⟨d1, s1⟩ := datS_dp hr.rep h1 ha
    obtain ⟨d2, s2⟩ := datS_dp hr.rep h2 hb
    exact op_eqD hu pins s σ0 H x y v u Q I rx ry ⟨d, e, d1, d2, s1, s2, Out.fin hr o (by rw [vr_bl])⟩
  · exact o.elim
theorem ok_ne (hu : X.A.units + 64 < cLine) : OpR X (compareOp .NotEq) (rd2 (kf X) W opNe) := by
  intro pins s σ0 H x y v u Q I rx ry ⟨ι, vs, M, σ, a, b, hr, ha, hb, o⟩
  unfold opNe at o
  split at o
  · rename_i d e h1 h2
    obtain ⟨d1, s1⟩ := datS_dp hr.rep h1 ha
    obtain ⟨d2, s2⟩ := datS_dp hr.rep h2 hb
    exact op_neD hu pins s σ0 H x y v u Q I rx ry ⟨d, e, d1, d2, s1, s2, Out.fin hr o (by rw [vr_bl])⟩
  · exact o.elim
end
end AM
end

section
set_option Elab.async false
set_option linter.all false
set_option autoImplicit false
set_option maxRecDepth 100000
set_option maxHeartbeats 4000000
/-! AM 4: sequences: items, slices, methods, built-ins over them. -/
namespace AM
open PySem PySem.Spec L2

/-! ### what they compute -/
/-- the items of a list or a tuple -/
def seqA (a : AV) (M : AH) : Option (List AV) := match a with
  | .tup xs => some xs
  | .ref i => match M[i]? with
    | some (.lst xs) => some xs
    | some (.frz xs) => some xs
    | _ => none
  | _ => none
def opIxS (a b : AV) (M : AH) : R AV := match b with
  | .int i => match seqA a M with
    | some xs => match atI xs i with
      | some x => .ok x M
      | none => .bad
    | none => .bad
  | _ => .bad
def cutA (xs : List AV) (lo hi : Option Int) : List AV := (xs.drop (HT.sIx xs.length 0 lo)).take (HT.sIx xs.length xs.length hi - HT.sIx xs.length 0 lo)
def opSl (a : AV) (lo hi : Option Int) (M : AH) : R AV := match a with
  | .tup xs => .ok (.tup (cutA xs lo hi)) M
  | .ref i => match M[i]? with
    | some (.lst xs) => newL (cutA xs lo hi) M
    | some (.frz xs) => newL (cutA xs lo hi) M
    | _ => .bad
  | _ => .bad
def lenA (as : List AV) (M : AH) : R AV := match as with
  | [.str s] => if s.length ≤ sizeLine then .ok (.int s.length) M else .bad
  | [.ref i] => match M[i]? with
    | some (.lst xs) => .ok (.int xs.length) M
    | some (.frz xs) => .ok (.int xs.length) M
    | some (.dct kvs) => .ok (.int kvs.length) M
    | _ => .bad
  | [.tup xs] => .ok (.int xs.length) M
  | _ => .bad
def listA (as : List AV) (M : AH) : R AV := match as with
  | [a] => match seqA a M with
    | some xs => newL xs M
    | none => .bad
  | _ => .bad
def tupleA (as : List AV) (M : AH) : R AV := match as with
  | [a] => match seqA a M with
    | some xs => .ok (.tup xs) M
    | none => .bad
  | _ => .bad
def absA (as : List AV) (M : AH) : R AV := match as with
  | [.int i] => .ok (.int (if i < 0 then -i else i)) M
  | _ => .bad
def intA (as : List AV) (M : AH) : R AV := match as with
  | [.int i] => .ok (.int i) M
  | [.bl k] => .ok (.int (if k then 1 else 0)) M
  | _ => .bad
def max2A (as : List AV) (M : AH) : R AV := match as with
  | [.int i, .int j] => .ok (.int (if j > i then j else i)) M
  | _ => .bad
def min2A (as : List AV) (M : AH) : R AV := match as with
  | [.int i, .int j] => .ok (.int (if j < i then j else i)) M
  | _ => .bad
def intsOf : List AV → Option (List Int)
  | [] => some []
  | .int i :: r => (intsOf r).map (i :: ·)
  | _ :: _ => none
def blsOf : List AV → Option (List Bool)
  | [] => some []
  | .bl i :: r => (blsOf r).map (i :: ·)
  | _ :: _ => none
def lstOf (a : AV) (M : AH) : Option (List AV) := match a with
  | .ref i => match M[i]? with
    | some (.lst xs) => some xs
    | some (.frz xs) => some xs
    | _ => none
  | _ => none
def sumA (as : List AV) (M : AH) : R AV := match as with
  | [a] => match (lstOf a M).bind intsOf with
    | some ns => .ok (.int ns.sum) M
    | none => .bad
  | _ => .bad
def anyA (as : List AV) (M : AH) : R AV := match as with
  | [a] => match (lstOf a M).bind blsOf with
    | some bs => .ok (.bl (bs.any id)) M
    | none => .bad
  | _ => .bad
def allA (as : List AV) (M : AH) : R AV := match as with
  | [a] => match (lstOf a M).bind blsOf with
    | some bs => .ok (.bl (bs.all id)) M
    | none => .bad
  | _ => .bad
def mAppend (a : AV) (as : List AV) (M : AH) : R AV := match a, as with
  | .ref i, [x] => match M[i]? with
    | some (.lst xs) => if xs.length < sizeLine then .ok .non (M.set i (.lst (xs ++ [x]))) else .bad
    | _ => .bad
  | _, _ => .bad
def mExtend (a : AV) (as : List AV) (M : AH) : R AV := match a, as with
  | .ref i, [.ref j] => match M[i]?, M[j]? with
    | some (.lst xs), some (.lst ys) => if xs.length + ys.length ≤ sizeLine then .ok .non (M.set i (.lst (xs ++ ys))) else .bad
    | _, _ => .bad
  | _, _ => .bad
def mPop0 (a : AV) (as : List AV) (M : AH) : R AV := match a, as with
  | .ref i, [] => match M[i]? with
    | some (.lst xs) => match xs[xs.length - 1]? with
      | some y => .ok y (M.set i (.lst xs.dropLast))
      | none => .bad
    | _ => .bad
  | _, _ => .bad
def mPop1 (a : AV) (as : List AV) (M : AH) : R AV := match a, as with
  | .ref i, [.int k] => match M[i]? with
    | some (.lst xs) => if -(2 ^ 63) ≤ k ∧ k < 2 ^ 63 then match ixN xs.length k with
        | some j => match xs[j]? with
          | some y => .ok y (M.set i (.lst (xs.eraseIdx j)))
          | none => .bad
        | none => .bad
      else .bad
    | _ => .bad
  | _, _ => .bad
def mClear (a : AV) (as : List AV) (M : AH) : R AV := match a, as with
  | .ref i, [] => match M[i]? with
    | some (.lst _) => .ok .non (M.set i (.lst []))
    | _ => .bad
  | _, _ => .bad
/-- xs[i] = v -/
def setL (o i v : AV) (M : AH) : R Unit := match o, i with
  | .ref j, .int k => match M[j]? with
    | some (.lst xs) => match ixN xs.length k with
      | some n => .ok () (M.set j (.lst (xs.set n v)))
      | none => .bad
    | _ => .bad
  | _, _ => .bad
/-- x in xs, of data -/
def opInS (neg : Bool) (a b : AV) (M : AH) : R AV := match datS M a, datS M b with
  | some d, some (.list ds) => .ok (.bl (if neg then !ds.any fun z => PyData.eqv z d else ds.any fun z => PyData.eqv z d)) M
  | _, _ => .bad
/-- parts of a slice -/
abbrev CO := Loc → AH → R (Option Int)
def noO : CO := fun _ M => .ok none M
def someO (c : CE) : CO := fun vs M => (c vs M).bind fun a M1 => match a with
  | .int i => .ok (some i) M1
  | _ => .bad
def sliceC (c : CE) (lo hi : CO) : CE := fun vs M => (c vs M).bind fun a M1 => (lo vs M1).bind fun l M2 => (hi vs M2).bind fun h M3 => opSl a l h M3

/-! ### they are what the machine does -/
section
variable [Tb] {X : Cx} {W : WX} {e a b : Expr} {es : List Expr} {pos p2 : Pos} {ca cb : CE} {r : CA}
theorem VRs.ints {κ : Cfg} {ι : List Addr} {H : Hp} : ∀ {xs : List AV} {ns : List Int} {vs : List V}, intsOf xs = some ns → VRs κ ι H xs vs → vs = ns.map V.int
  | [], ns, vs, e, h => by rw [h.nil_inv]; cases e; rfl
  | .int i :: xs, ns, vs, e, h => by
    obtain ⟨v, ws, rfl, r, q⟩ := h.cons_inv
    rw [vr_int] at r; subst r
    obtain ⟨m, e1, rfl⟩ := Option.map_eq_some_iff.mp e
    rw [VRs.ints e1 q]; rfl
  | .non :: _, _, _, e, _ | .bl _ :: _, _, _, e, _ | .str _ :: _, _, _, e, _ | .tup _ :: _, _, _, e, _ | .ref _ :: _, _, _, e, _ | .glo _ :: _, _, _, e, _ | .ty _ :: _, _, _, e, _ => by cases e
theorem VRs.bls {κ : Cfg} {ι : List Addr} {H : Hp} : ∀ {xs : List AV} {ns : List Bool} {vs : List V}, blsOf xs = some ns → VRs κ ι H xs vs → vs = ns.map V.bl
  | [], ns, vs, e, h => by rw [h.nil_inv]; cases e; rfl
  | .bl i :: xs, ns, vs, e, h => by
    obtain ⟨v, ws, rfl, r, q⟩ := h.cons_inv
    rw [vr_bl] at r; subst r
    obtain ⟨m, e1, rfl⟩ := Option.map_eq_some_iff.mp e
    rw [VRs.bls e1 q]; rfl
  | .non :: _, _, _, e, _ | .int _ :: _, _, _, e, _ | .str _ :: _, _, _, e, _ | .tup _ :: _, _, _, e, _ | .ref _ :: _, _, _, e, _ | .glo _ :: _, _, _, e, _ | .ty _ :: _, _, _, e, _ => by cases e
theorem lst_rel {κ : Cfg} {ι : List Addr} {M : AH} {H : Hp} (hr : Rep κ ι M H) {a : AV} {xs : List AV} {v : V} (e : lstOf a M = some xs) (h : VR κ ι H a v) : ∃ p ws, v = .ref p ∧ SqL κ.K H p ws ∧ VRs κ ι H xs ws := by
  unfold lstOf at e
  split at e
  · rename_i i
    rw [vr_ref] at h
    obtain ⟨p, ei, rfl⟩ := h
    split at e
    · rename_i ys q
      cases e
      obtain ⟨ws, h1, h2⟩ := hr.at_ q ei
      exact ⟨p, ws, rfl, SqL.of h1, h2⟩
    · rename_i ys q
      cases e
      obtain ⟨ob, ws, h1, h2⟩ := hr.at_ q ei
      exact ⟨p, ws, rfl, .inl (.inr ⟨ob, h1⟩), h2⟩
    · cases e
  · cases e
theorem seq_rel {κ : Cfg} {ι : List Addr} {M : AH} {H : Hp} (hr : Rep κ ι M H) {a : AV} {xs : List AV} {v : V} (e : seqA a M = some xs) (h : VR κ ι H a v) : ∃ p ws, v = .ref p ∧ (SqL κ.K H p ws ∨ SqT κ.K H p ws) ∧ VRs κ ι H xs ws := by
  unfold seqA at e
  split at e
  · cases e
    rw [vr_tup] at h
    obtain ⟨p, ws, rfl, hp, hw⟩ := h
    exact ⟨p, ws, rfl, .inr hp, hw⟩
  · rename_i i
    rw [vr_ref] at h
    obtain ⟨p, ei, rfl⟩ := h
    split at e
    · rename_i ys q
      cases e
      obtain ⟨ws, h1, h2⟩ := hr.at_ q ei
      exact ⟨p, ws, rfl, .inl (SqL.of h1), h2⟩
    · rename_i ys q
      cases e
      obtain ⟨ob, ws, h1, h2⟩ := hr.at_ q ei
      exact ⟨p, ws, rfl, .inl (.inl (.inr ⟨ob, h1⟩)), h2⟩
    · cases e
  · cases e
theorem atI_rel {κ : Cfg} {ι : List Addr} {H : Hp} {xs : List AV} {ws : List V} {i : Int} {x : AV} (h : VRs κ ι H xs ws) (e : atI xs i = some x) : ∃ v, atI ws i = some v ∧ VR κ ι H x v := by
  unfold atI at e ⊢
  obtain ⟨j, e1, e2⟩ := Option.bind_eq_some_iff.mp e
  obtain ⟨v, e3, r⟩ := h.get e2
  exact ⟨v, by rw [← h.length, e1]; exact e3, r⟩
theorem ix_seqA : IxR X (rd2 (kf X) W opIxS) := by
  intro value slice pins s σ0 H x y v u Q I rx ry ⟨ι, vs, M, σ, a, b, hr, ha, hb, o⟩ hs
  unfold opIxS at o
  split at o
  · rename_i i
    rw [vr_int] at hb
    split at o
    · rename_i xs e
      split at o
      · rename_i z ez
        obtain ⟨p, ws, rfl, hp, hw⟩ := seq_rel hr.rep e ha
        obtain ⟨v', e', rv⟩ := atI_rel hw ez
        have fin : Q v' H := Out.fin hr o rv
        rcases hp with hp | hp
        · exact ix_list value slice pins s σ0 H _ _ v u Q I rx ry ⟨p, ws, i, v', rfl, hb, hp, e', fin⟩ hs
        · exact ix_tup value slice pins s σ0 H _ _ v u Q I rx ry ⟨p, ws, i, v', rfl, hb, hp, e', fin⟩ hs
      · exact o.elim
    · exact o.elim
  · exact o.elim
theorem ev_ix {op : AV → AV → AH → R AV} (hi : IxR X (rd2 (kf X) W op)) (ha : EvE X W a ca) (hb : EvE X W b cb) (hs : PlainIx b := by exact fun _ _ => rfl) : EvE X W (.Subscript a b pos) (bin2 op ca cb) :=
  PE.imp (pe_ix hi ha hb hs) fun σ H Q h => two_vals h
/-! slices -/
theorem cut_rel {κ : Cfg} {ι : List Addr} {H : Hp} {xs : List AV} {ws : List V} (lo hi : Option Int) (h : VRs κ ι H xs ws) : VRs κ ι H (cutA xs lo hi) (cutV ws lo hi) := by
  unfold cutA cutV
  rw [← h.length]
  exact (h.drop _).take _
def rdSl (κ : Cfg) (W : WX) : V → Option Int → Option Int → Hp → VK → Prop := fun x lo hi H Q => ∃ ι vs M σ a, Rel κ ι vs M σ H ∧ VR κ ι H a x ∧ Out κ W (VR κ) ι vs σ H Q (opSl a lo hi M)
theorem sl_all : SlR X (rdSl (kf X) W) := by
  intro pins s σ0 H x v vl vu lo hi sl Q I rx hs pl pu ⟨ι, vs, M, σ, a, hr, ha, o⟩
  unfold opSl at o
  split at o
  · rename_i xs
    rw [vr_tup] at ha
    obtain ⟨p, ws, rfl, hp, hw⟩ := ha
    refine sl_tupA pins s σ0 H _ v vl vu lo hi sl Q I rx hs pl pu ⟨p, ws, rfl, hp, fun e => ?_, fun _ => Out.newT hr (cut_rel lo hi hw) o⟩
    refine Out.fin hr o ?_
    rw [vr_tup]
    refine ⟨p, ws, rfl, hp, ?_⟩
    have h := cut_rel lo hi hw
    unfold cutV at h
    rw [e.1, e.2] at h
    simpa using h
  · rename_i i
    rw [vr_ref] at ha
    obtain ⟨p, ei, rfl⟩ := ha
    split at o
    · rename_i xs q
      obtain ⟨ws, h1, h2⟩ := hr.rep.at_ q ei
      obtain ⟨_, n⟩ := Out.newL hr (cut_rel lo hi h2) o
      exact sl_list pins s σ0 H _ v vl vu lo hi sl Q I rx hs pl pu ⟨p, ws, rfl, SqL.of h1, n⟩
    · rename_i xs q
      obtain ⟨ob, ws, h1, h2⟩ := hr.rep.at_ q ei
      obtain ⟨_, n⟩ := Out.newL hr (cut_rel lo hi h2) o
      exact sl_list pins s σ0 H _ v vl vu lo hi sl Q I rx hs pl pu ⟨p, ws, rfl, .inl (.inr ⟨ob, h1⟩), n⟩
    · exact o.elim
  · exact o.elim
abbrev relO : List Addr → Hp → Option Int → Option Int → Prop := fun _ _ a b => a = b
abbrev EvO (X : Cx) (W : WX) (e : Option Expr) (c : CO) : Prop := PO X e (rd (kf X) W relO c)
theorem PO.imp {e : Option Expr} {t t' : TO} (h : PO X e t) (k : ∀ σ H Q, t' σ H Q → t σ H Q) : PO X e t' := ⟨fun pins s σ H Q I q => h.run pins s σ H Q I (k σ H Q q)⟩
theorem eo_none : EvO X W none noO := PO.imp po_none fun σ H Q ⟨ι, vs, M, hr, o⟩ => Out.fin hr o rfl
theorem eo_some (h : EvE X W e ca) : EvO X W (some e) (someO ca) := PO.imp (po_some h) fun σ H Q ⟨ι, vs, M, hr, o⟩ => Out.run hr o fun ι1 a M1 v H1 h1 h2 h3 h4 h5 => by
  cases a with
  | int i =>
    rw [vr_int] at h4
    exact ⟨i, h4, Out.fin h3 h5 rfl⟩
  | _ => exact h5.elim
theorem ev_slice {lo hi : Option Expr} {cl ch : CO} (he : EvE X W e ca) (hl : EvO X W lo cl) (hh : EvO X W hi ch) : EvE X W (.Subscript e (.Slice lo hi none p2) pos) (sliceC ca cl ch) :=
  PE.imp (pe_slice sl_all he hl hh) fun σ H Q ⟨ι, vs, M, hr, o⟩ => Out.run hr o fun ι1 a M1 v H1 h1 h2 h3 h4 h5 => Out.run h3 h5 fun ι2 l M2 l' H2 g1 g2 g3 g4 g5 => Out.run g3 g5 fun ι3 h M3 h' H3 k1 k2 k3 k4 k5 => by
    subst g4; subst k4
    exact ⟨ι3, vs, M3, σ, a, k3, (h4.mono g1 g2).mono k1 k2, k5⟩
/-! built-ins -/
theorem cr_len : CallR X (.builtin "len") (rdN (kf X) W lenA) := by
  intro pins s σ0 H xs us Q I r ⟨ι, vs, M, σ, as, hr, ha, o⟩
  unfold lenA at o
  split at o
  · rename_i z
    split at o
    · rename_i hz
      obtain ⟨v, ws, rfl, h1, h2⟩ := ha.cons_inv
      obtain rfl := h2.nil_inv
      rw [vr_str] at h1; subst h1
      exact call_len pins s σ0 H _ us Q I r ⟨_, z.length, rfl, ⟨hz, rfl⟩, Out.fin hr o (by rw [vr_int])⟩
    · exact o.elim
  · rename_i i
    obtain ⟨v, ws, rfl, h1, h2⟩ := ha.cons_inv
    obtain rfl := h2.nil_inv
    rw [vr_ref] at h1
    obtain ⟨p, ei, rfl⟩ := h1
    split at o
    · rename_i xs q
      obtain ⟨ws, g1, g2⟩ := hr.rep.at_ q ei
      exact call_len pins s σ0 H _ us Q I r ⟨_, xs.length, rfl, .inl ⟨ws, SqL.of g1, g2.length⟩, Out.fin hr o (by rw [vr_int])⟩
    · rename_i xs q
      obtain ⟨ob, ws, g1, g2⟩ := hr.rep.at_ q ei
      exact call_len pins s σ0 H _ us Q I r ⟨_, xs.length, rfl, .inl ⟨ws, .inl (.inr ⟨ob, g1⟩), g2.length⟩, Out.fin hr o (by rw [vr_int])⟩
    · rename_i kvs q
      rcases hr.rep.at_ q ei with ⟨gs, g1, g2⟩ | ⟨ks, g1, g2, _⟩
      · obtain ⟨u, rfl, ru⟩ := vals1 r
        cases ru
        exact d_len I (.inl g1) fun t s' I' => ⟨.int gs.length, H, I', ⟨t, rfl⟩, Out.fin hr o (by rw [vr_int, Paired.length g2])⟩
      · obtain ⟨u, rfl, ru⟩ := vals1 r
        cases ru
        obtain ⟨z1, z2, xs, z3, z4⟩ := nd_at I g1 g2
        have l1 := Paired.length g2
        have l2 := Paired.length z4
        have hl := line63
        exact call_len_dictH z1 z3 (by rw [← l2]; omega) ⟨.int xs.length, H, I.tok _, ⟨_, rfl⟩, Out.fin hr o (by rw [vr_int, l1, l2])⟩
    · exact o.elim
  · rename_i xs
    obtain ⟨v, ws, rfl, h1, h2⟩ := ha.cons_inv
    obtain rfl := h2.nil_inv
    rw [vr_tup] at h1
    obtain ⟨p, us', rfl, g1, g2⟩ := h1
    exact call_len pins s σ0 H _ us Q I r ⟨_, xs.length, rfl, .inr ⟨us', g1, g2.length⟩, Out.fin hr o (by rw [vr_int])⟩
  · exact o.elim
theorem cr_list : CallR X (.type "list") (rdN (kf X) W listA) := by
  intro pins s σ0 H xs us Q I r ⟨ι, vs, M, σ, as, hr, ha, o⟩
  unfold listA at o
  split at o
  · split at o
    · rename_i a xs e
      obtain ⟨v, ws, rfl, h1, h2⟩ := ha.cons_inv
      obtain rfl := h2.nil_inv
      obtain ⟨p, zs, rfl, hp, hz⟩ := seq_rel hr.rep e h1
      exact call_list_of pins s σ0 H _ us Q I r ⟨p, zs, rfl, hp, (Out.newL hr hz o).2⟩
    · exact o.elim
  · exact o.elim
theorem cr_tuple : CallR X (.type "tuple") (rdN (kf X) W tupleA) := by
  intro pins s σ0 H xs us Q I r ⟨ι, vs, M, σ, as, hr, ha, o⟩
  unfold tupleA at o
  split at o
  · split at o
    · rename_i a xs e
      obtain ⟨v, ws, rfl, h1, h2⟩ := ha.cons_inv
      obtain rfl := h2.nil_inv
      obtain ⟨p, zs, rfl, hp, hz⟩ := seq_rel hr.rep e h1
      refine call_tuple_of pins s σ0 H _ us Q I r ⟨p, zs, rfl, ?_⟩
      rcases hp with hp | hp
      · exact .inl ⟨hp, Out.newT hr hz o⟩
      · refine .inr ⟨hp, Out.fin hr o ?_⟩
        rw [vr_tup]
        exact ⟨p, zs, rfl, hp, hz⟩
    · exact o.elim
  · exact o.elim
theorem cr_abs : CallR X (.builtin "abs") (rdN (kf X) W absA) := by
  intro pins s σ0 H xs us Q I r ⟨ι, vs, M, σ, as, hr, ha, o⟩
  unfold absA at o
  split at o
  · obtain ⟨v, ws, rfl, h1, h2⟩ := ha.cons_inv
    obtain rfl := h2.nil_inv
    rw [vr_int] at h1; subst h1
    exact call_abs pins s σ0 H _ us Q I r ⟨_, rfl, Out.fin hr o (by rw [vr_int])⟩
  · exact o.elim
theorem cr_int : CallR X (.type "int") (rdN (kf X) W intA) := by
  intro pins s σ0 H xs us Q I r ⟨ι, vs, M, σ, as, hr, ha, o⟩
  unfold intA at o
  split at o
  · obtain ⟨v, ws, rfl, h1, h2⟩ := ha.cons_inv
    obtain rfl := h2.nil_inv
    rw [vr_int] at h1; subst h1
    exact call_int1 pins s σ0 H _ us Q I r (.inl ⟨_, rfl, Out.fin hr o (by rw [vr_int])⟩)
  · obtain ⟨v, ws, rfl, h1, h2⟩ := ha.cons_inv
    obtain rfl := h2.nil_inv
    rw [vr_bl] at h1; subst h1
    exact call_int1 pins s σ0 H _ us Q I r (.inr ⟨_, rfl, Out.fin hr o (by rw [vr_int])⟩)
  · exact o.elim
theorem cr_max2 (hc : X.calm = true) : CallR X (.builtin "max") (rdN (kf X) W max2A) := by
  intro pins s σ0 H xs us Q I r ⟨ι, vs, M, σ, as, hr, ha, o⟩
  unfold max2A at o
  split at o
  · obtain ⟨v, ws, rfl, h1, h2⟩ := ha.cons_inv
    obtain ⟨v', ws', rfl, h3, h4⟩ := h2.cons_inv
    obtain rfl := h4.nil_inv
    rw [vr_int] at h1 h3; subst h1; subst h3
    exact call_max2 hc pins s σ0 H _ us Q I r ⟨_, _, rfl, Out.fin hr o (by rw [vr_int])⟩
  · exact o.elim
theorem cr_min2 (hc : X.calm = true) : CallR X (.builtin "min") (rdN (kf X) W min2A) := by
  intro pins s σ0 H xs us Q I r ⟨ι, vs, M, σ, as, hr, ha, o⟩
  unfold min2A at o
  split at o
  · obtain ⟨v, ws, rfl, h1, h2⟩ := ha.cons_inv
    obtain ⟨v', ws', rfl, h3, h4⟩ := h2.cons_inv
    obtain rfl := h4.nil_inv
    rw [vr_int] at h1 h3; subst h1; subst h3
    exact call_min2 hc pins s σ0 H _ us Q I r ⟨_, _, rfl, Out.fin hr o (by rw [vr_int])⟩
  · exact o.elim
theorem cr_sumA (hc : X.calm = true) : CallR X (.builtin "sum") (rdN (kf X) W sumA) := by
  intro pins s σ0 H xs us Q I r ⟨ι, vs, M, σ, as, hr, ha, o⟩
  unfold sumA at o
  split at o
  · split at o
    · rename_i a ns e
      obtain ⟨xs', e1, e2⟩ := Option.bind_eq_some_iff.mp e
      obtain ⟨v, ws, rfl, h1, h2⟩ := ha.cons_inv
      obtain rfl := h2.nil_inv
      obtain ⟨p, zs, rfl, hp, hz⟩ := lst_rel hr.rep e1 h1
      rw [hz.ints e2] at hp
      exact cr_sum hc pins s σ0 H _ us Q I r ⟨p, ns, rfl, hp, Out.fin hr o (by rw [vr_int])⟩
    · exact o.elim
  · exact o.elim
theorem cr_anyA (hc : X.calm = true) : CallR X (.builtin "any") (rdN (kf X) W anyA) := by
  intro pins s σ0 H xs us Q I r ⟨ι, vs, M, σ, as, hr, ha, o⟩
  unfold anyA at o
  split at o
  · split at o
    · rename_i a ns e
      obtain ⟨xs', e1, e2⟩ := Option.bind_eq_some_iff.mp e
      obtain ⟨v, ws, rfl, h1, h2⟩ := ha.cons_inv
      obtain rfl := h2.nil_inv
      obtain ⟨p, zs, rfl, hp, hz⟩ := lst_rel hr.rep e1 h1
      rw [hz.bls e2] at hp
      exact cr_any hc pins s σ0 H _ us Q I r ⟨p, ns, rfl, hp, Out.fin hr o (by rw [vr_bl])⟩
    · exact o.elim
  · exact o.elim
theorem cr_allA (hc : X.calm = true) : CallR X (.builtin "all") (rdN (kf X) W allA) := by
  intro pins s σ0 H xs us Q I r ⟨ι, vs, M, σ, as, hr, ha, o⟩
  unfold allA at o
  split at o
  · split at o
    · rename_i a ns e
      obtain ⟨xs', e1, e2⟩ := Option.bind_eq_some_iff.mp e
      obtain ⟨v, ws, rfl, h1, h2⟩ := ha.cons_inv
      obtain rfl := h2.nil_inv
      obtain ⟨p, zs, rfl, hp, hz⟩ := lst_rel hr.rep e1 h1
      rw [hz.bls e2] at hp
      exact cr_all hc pins s σ0 H _ us Q I r ⟨p, ns, rfl, hp, Out.fin hr o (by rw [vr_bl])⟩
    · exact o.elim
  · exact o.elim
/-! methods of lists -/
/-- a list of ours is written -/
theorem Out.setO {β : Type} {α : Type} {rel : List Addr → Hp → α → β → Prop} {κ : Cfg} {ι : List Addr} {vs : Loc} {M : AH} {σ : L2.St} {H : Hp} {Q : β → Hp → Prop} {a : α} {b : β} {i : Nat} {p : Addr} {xs' : List AV} {ws ws' : List V} (hr : Rel κ ι vs M σ H) (ei : ι[i]? = some p) (hp : H p = some (.lst ws))
    (hx : VRs κ ι H xs' ws') (o : Out κ W rel ι vs σ H Q (.ok a (M.set i (.lst xs')))) (h : ∀ H', Keep H H' → rel ι H' a b) : Q b (upd H p (.lst ws')) := by
  have hk : Keep H (upd H p (.lst ws')) := Keep.mut hp (fun _ z => by cases z) fun _ _ z => by cases z
  exact o ι _ _ (List.prefix_refl _) hk (hr.set ei hp hk ⟨ws', upd_same, hx.mono (List.prefix_refl _) hk⟩ fun _ z => by cases z) (h _ hk)
theorem mt_app : MtM X "list.append" (rdM (kf X) W mAppend) := by
  intro pins s σ0 H x xs v us Q I rx rv ⟨ι, vs, M, σ, a, as, hr, ha, has, o⟩
  unfold mAppend at o
  split at o
  · rename_i i y
    rw [vr_ref] at ha
    obtain ⟨p, ei, rfl⟩ := ha
    obtain ⟨w, ws0, rfl, h1, h2⟩ := has.cons_inv
    obtain rfl := h2.nil_inv
    split at o
    · rename_i ys q
      split at o
      · rename_i hz
        obtain ⟨ws, g1, g2⟩ := hr.rep.at_ q ei
        exact mt_append pins s σ0 H _ _ v us Q I rx rv ⟨p, ws, w, rfl, rfl, g1, by rw [← g2.length]; exact hz, Out.setO hr ei g1 (g2.app (.cons h1 .nil)) o fun _ _ => by rw [vr_non]⟩
      · exact o.elim
    · exact o.elim
  · exact o.elim
theorem mt_ext : MtM X "list.extend" (rdM (kf X) W mExtend) := by
  intro pins s σ0 H x xs v us Q I rx rv ⟨ι, vs, M, σ, a, as, hr, ha, has, o⟩
  unfold mExtend at o
  split at o
  · rename_i i j
    rw [vr_ref] at ha
    obtain ⟨p, ei, rfl⟩ := ha
    obtain ⟨w, ws0, rfl, h1, h2⟩ := has.cons_inv
    rw [vr_ref] at h1
    obtain ⟨p2, ej, rfl⟩ := h1
    obtain rfl := h2.nil_inv
    split at o
    · rename_i ys zs q q2
      split at o
      · rename_i hz
        obtain ⟨ws, g1, g2⟩ := hr.rep.at_ q ei
        obtain ⟨ws2, k1, k2⟩ := hr.rep.at_ q2 ej
        exact mt_extend pins s σ0 H _ _ v us Q I rx rv ⟨p, p2, ws, ws2, rfl, rfl, g1, k1, by rw [← g2.length, ← k2.length]; exact hz, Out.setO hr ei g1 (g2.app k2) o fun _ _ => by rw [vr_non]⟩
      · exact o.elim
    · exact o.elim
  · exact o.elim
theorem mt_pop0 : MtM X "list.pop" (rdM (kf X) W mPop0) := by
  intro pins s σ0 H x xs v us Q I rx rv ⟨ι, vs, M, σ, a, as, hr, ha, has, o⟩
  unfold mPop0 at o
  split at o
  · rename_i i
    rw [vr_ref] at ha
    obtain ⟨p, ei, rfl⟩ := ha
    obtain rfl := has.nil_inv
    split at o
    · rename_i ys q
      split at o
      · rename_i y ey
        obtain ⟨ws, g1, g2⟩ := hr.rep.at_ q ei
        obtain ⟨w, ew, rw'⟩ := g2.get ey
        exact mt_pop pins s σ0 H _ _ v us Q I rx rv ⟨p, ws, w, rfl, rfl, g1, by rw [← g2.length]; exact ew, Out.setO hr ei g1 g2.dropLast o fun _ k => rw'.mono (List.prefix_refl _) k⟩
      · exact o.elim
    · exact o.elim
  · exact o.elim
theorem mt_pop1 : MtM X "list.pop" (rdM (kf X) W mPop1) := by
  intro pins s σ0 H x xs v us Q I rx rv ⟨ι, vs, M, σ, a, as, hr, ha, has, o⟩
  unfold mPop1 at o
  split at o
  · rename_i i k
    rw [vr_ref] at ha
    obtain ⟨p, ei, rfl⟩ := ha
    obtain ⟨w0, ws0, rfl, h1, h2⟩ := has.cons_inv
    rw [vr_int] at h1; subst h1
    obtain rfl := h2.nil_inv
    split at o
    · rename_i ys q
      split at o
      · rename_i hk
        split at o
        · rename_i j ej
          split at o
          · rename_i y ey
            obtain ⟨ws, g1, g2⟩ := hr.rep.at_ q ei
            obtain ⟨w, ew, rw'⟩ := g2.get ey
            refine mt_popAt pins s σ0 H _ _ v us Q I rx rv ⟨p, ws, k, j, w, rfl, rfl, g1, hk.1, hk.2, ?_, ew, Out.setO hr ei g1 (g2.erase j) o fun _ k => rw'.mono (List.prefix_refl _) k⟩
            rw [← g2.length]
            exact (ixN_seq ej).1
          · exact o.elim
        · exact o.elim
      · exact o.elim
    · exact o.elim
  · exact o.elim
theorem mt_clr : MtM X "list.clear" (rdM (kf X) W mClear) := by
  intro pins s σ0 H x xs v us Q I rx rv ⟨ι, vs, M, σ, a, as, hr, ha, has, o⟩
  unfold mClear at o
  split at o
  · rename_i i
    rw [vr_ref] at ha
    obtain ⟨p, ei, rfl⟩ := ha
    obtain rfl := has.nil_inv
    split at o
    · rename_i ys q
      obtain ⟨ws, g1, g2⟩ := hr.rep.at_ q ei
      exact mt_clear pins s σ0 H _ _ v us Q I rx rv ⟨p, ws, rfl, rfl, g1, Out.setO hr ei g1 .nil o fun _ _ => by rw [vr_non]⟩
    · exact o.elim
  · exact o.elim
/-! in -/
theorem dp_list {K : PySem.W.Frag} {H : Hp} {v : V} {ds : List PyData} (h : Dp K H v (.list ds)) : Dp K H v (.list ds) := h
theorem ok_in (hu : X.A.units + 65 < cLine) : OpR X (compareOp .In) (rd2 (kf X) W (opInS false)) := by
  intro pins s σ0 H x y v u Q I rx ry ⟨ι, vs, M, σ, a, b, hr, ha, hb, o⟩
  unfold opInS at o
  split at o
  · rename_i d ds h1 h2
    obtain ⟨d1, s1⟩ := datS_dp hr.rep h1 ha
    obtain ⟨d2, s2⟩ := datS_dp hr.rep h2 hb
    exact op_inD hu pins s σ0 H x y v u Q I rx ry ⟨d, ds, d1, d2, s1, s2, Out.fin hr o (by rw [vr_bl]; rfl)⟩
  · exact o.elim
theorem ok_notin (hu : X.A.units + 65 < cLine) : OpR X (compareOp .NotIn) (rd2 (kf X) W (opInS true)) := by
  intro pins s σ0 H x y v u Q I rx ry ⟨ι, vs, M, σ, a, b, hr, ha, hb, o⟩
  unfold opInS at o
  split at o
  · rename_i d ds h1 h2
    obtain ⟨d1, s1⟩ := datS_dp hr.rep h1 ha
    obtain ⟨d2, s2⟩ := datS_dp hr.rep h2 hb
    exact op_notInD hu pins s σ0 H x y v u Q I rx ry ⟨d, ds, d1, d2, s1, s2, Out.fin hr o (by rw [vr_bl]; rfl)⟩
  · exact o.elim
/-! stores -/
def rdSet (κ : Cfg) (W : WX) (op : AV → AV → AV → AH → R Unit) : V → V → V → Hp → (Hp → Prop) → Prop := fun o i v H Q =>
  ∃ ι vs M σ a b c, Rel κ ι vs M σ H ∧ VR κ ι H a o ∧ VR κ ι H b i ∧ VR κ ι H c v ∧ Out κ W (fun _ _ (_ : Unit) (_ : Unit) => True) ι vs σ H (fun _ => Q) (op a b c M)
theorem st_list : PSet X (rdSet (kf X) W setL) := by
  intro pins s σ0 H o i v ov iv u Q I ro ri rv ⟨ι, vs, M, σ, a, b, c, hr, ha, hb, hc, oo⟩
  unfold setL at oo
  split at oo
  · rename_i j k
    rw [vr_ref] at ha
    obtain ⟨p, ei, rfl⟩ := ha
    rw [vr_int] at hb
    split at oo
    · rename_i xs q
      split at oo
      · rename_i n en
        obtain ⟨ws, g1, g2⟩ := hr.rep.at_ q ei
        exact set_list pins s σ0 H _ _ v ov iv u Q I ro ri rv ⟨p, ws, k, n, rfl, hb, g1, by rw [← g2.length]; exact en, Out.setO hr ei g1 (g2.set n hc) (b := ()) oo fun _ _ => trivial⟩
      · exact oo.elim
    · exact oo.elim
  · exact oo.elim
end
end AM
end

section
set_option Elab.async false
set_option linter.all false
set_option autoImplicit false
set_option maxRecDepth 100000
set_option maxHeartbeats 4000000
/-! AM 5: dicts. -/
namespace AM
open PySem PySem.Spec L2

def isFl : AV → Bool
  | .int _ => true
  | .str _ => true
  | _ => false
def isTp : AV → Bool
  | .tup _ => true
  | _ => false
/-- a key that a dict with these entries can be asked for; which kind -/
def dOk (a : AV) (k : NestedKey) (kvs : List (AV × AV)) : Bool := (isFl a && kvs.all fun p => isFl p.1) || (isTp a && (kvs.all fun p => isTp p.1) && decide (k.depth ≤ 8))
def dfind (kvs : List (AV × AV)) (k : NestedKey) : Option AV := (kvs.find? fun p => decide (p.1.key = some k)).map (·.2)
def dhas (kvs : List (AV × AV)) (k : NestedKey) : Bool := kvs.any fun p => decide (p.1.key = some k)
def dput (kvs : List (AV × AV)) (a : AV) (k : NestedKey) (v : AV) : List (AV × AV) :=
  if dhas kvs k = true then kvs.map fun p => if p.1.key = some k then (p.1, v) else p else kvs ++ [(a, v)]
def dctOf (a : AV) (M : AH) : Option (Nat × List (AV × AV)) := match a with
  | .ref i => match M[i]? with
    | some (.dct kvs) => some (i, kvs)
    | _ => none
  | _ => none
/-- a dict and a key -/
def dk2 {α : Type} (d a : AV) (M : AH) (f : Nat → List (AV × AV) → NestedKey → R α) : R α := match dctOf d M, a.key with
  | some (i, kvs), some k => if dOk a k kvs = true then f i kvs k else .bad
  | _, _ => .bad
def dGetA (d a : AV) (M : AH) : R AV := dk2 d a M fun _ kvs k => match dfind kvs k with
  | some v => .ok v M
  | none => .bad
def dInA (neg : Bool) (a d : AV) (M : AH) : R AV := dk2 d a M fun _ kvs k => .ok (.bl (if neg then !dhas kvs k else dhas kvs k)) M
def dPutA (d a v : AV) (M : AH) : R Unit := dk2 d a M fun i kvs k => if kvs.length < sizeLine then .ok () (M.set i (.dct (dput kvs a k v))) else .bad
def newD (M : AH) : R AV := .ok (.ref M.length) (M ++ [.dct []])
def mGet (d : AV) (as : List AV) (M : AH) : R AV := match as with
  | [a] => dk2 d a M fun _ kvs k => .ok ((dfind kvs k).getD .non) M
  | [a, x] => dk2 d a M fun _ kvs k => .ok ((dfind kvs k).getD x) M
  | _ => .bad
def mSetd (d : AV) (as : List AV) (M : AH) : R AV := match as with
  | [a, x] => dk2 d a M fun i kvs k => match dfind kvs k with
    | some v => .ok v M
    | none => if kvs.length < sizeLine then .ok x (M.set i (.dct (dput kvs a k x))) else .bad
  | _ => .bad

/-! ### views -/
section
variable [Tb] {X : Cx} {W : WX} {pins : List (Addr × Obj)} {σ0 : L2.St} {s : Shared} {κ : Cfg} {ι : List Addr} {H : Hp} {a : Addr} {kvs : List (AV × AV)}
theorem KR.key {a : AV} {y : Key} (h : KR a y) : ∃ k, a.key = some k ∧ ∀ {b : AV} {z : Key}, KR b z → (b.key = some k ↔ z = y) := by
  cases h with
  | int i =>
    refine ⟨.num i, rfl, fun {b z} h => ?_⟩
    cases h with
    | int j => rw [AV.key]; constructor <;> intro e <;> cases e <;> rfl
    | str j => rw [AV.key]; constructor <;> intro e <;> cases e
  | str i =>
    refine ⟨.text i, rfl, fun {b z} h => ?_⟩
    cases h with
    | int j => rw [AV.key]; constructor <;> intro e <;> cases e
    | str j => rw [AV.key]; constructor <;> intro e <;> cases e <;> rfl
theorem fl_kr {a : AV} (h : isFl a = true) : ∃ y, KR a y := by
  cases a with
  | int i => exact ⟨_, .int i⟩
  | str i => exact ⟨_, .str i⟩
  | _ => cases h
/-- a dict with flat keys as the library tells it -/
def FlV (X : Cx) (ι : List Addr) (H : Hp) (h : Heap) (a : Addr) (kvs : List (AV × AV)) (gs : List (Key × V)) (vs : List (Key × Value)) : Prop :=
  (a == sysModules) = false ∧ gs.length ≤ sizeLine ∧ DR (kf X) ι H kvs gs ∧ KV gs vs ∧ h.DictOf (mixKind X.prog X.w) a vs
def TpV (X : Cx) (ι : List Addr) (H : Hp) (h : Heap) (a : Addr) (kvs : List (AV × AV)) (ks : List (NestedKey × Addr × V)) (xs : List (NestedKey × Addr × Value)) : Prop :=
  (a == sysModules) = false ∧ ks.length ≤ sizeLine ∧ TR (kf X) ι H kvs ks ∧ NR ks xs ∧ h.DictOfH (nestedKind X.prog X.w) a xs
theorem dr_fl {gs : List (Key × V)} (h : DR κ ι H kvs gs) (t : kvs.all (fun p => isTp p.1) = true) : kvs = [] ∧ gs = [] := by
  cases kvs with
  | nil => cases h; exact ⟨rfl, rfl⟩
  | cons p r =>
    obtain ⟨p1, p2⟩ := p
    rw [List.all_cons] at t
    obtain ⟨t1, _⟩ := Bool.and_eq_true_iff.mp t
    cases h with
    | @cons _ q _ _ rr _ =>
      obtain ⟨q1, q2⟩ := q
      obtain ⟨r1, _⟩ := rr
      cases p1 with
      | tup xs => cases r1
      | _ => cases t1
theorem tr_tp {ks : List (NestedKey × Addr × V)} (h : TR κ ι H kvs ks) (t : kvs.all (fun p => isFl p.1) = true) : kvs = [] ∧ ks = [] := by
  cases kvs with
  | nil => cases h; exact ⟨rfl, rfl⟩
  | cons p r =>
    obtain ⟨p1, p2⟩ := p
    rw [List.all_cons] at t
    obtain ⟨t1, _⟩ := Bool.and_eq_true_iff.mp t
    cases h with
    | @cons _ q _ _ rr _ =>
      obtain ⟨_, r2, _⟩ := rr
      cases p1 with
      | int i => rw [vr_int] at r2; cases r2
      | str i => rw [vr_str] at r2; cases r2
      | _ => cases t1
theorem flV (I : Inv X pins σ0 H s) (o : OR (kf X) ι H (.dct kvs) a) (t : kvs.all (fun p => isFl p.1) = true) : ∃ gs vs, FlV X ι H s.heap a kvs gs vs := by
  rcases o with ⟨gs, h1, h2⟩ | ⟨ks, h1, h2, hne⟩
  · obtain ⟨z, hd, vs, rel, dd⟩ := dk_rd I.hok (.inl h1)
    exact ⟨gs, vs, hd, z, h2, rel, dd⟩
  · obtain ⟨z1, z2, xs, z3, z4⟩ := nd_at I h1 h2
    obtain ⟨rfl, rfl⟩ := tr_tp h2 t
    cases z4
    obtain ⟨o, es, ep, ho, hx, hd, he, _, _⟩ := z3
    have e0 : es = #[] := by
      have : es.toList = [] := he
      simpa using this
    subst e0
    refine ⟨[], [], z1, by simp, .nil, .nil, o, #[], ep, ho, hx, hd, ?_, ?_, List.nodup_nil⟩
    · intro j hj; simp at hj
    · exact .nil
theorem tpV (I : Inv X pins σ0 H s) (o : OR (kf X) ι H (.dct kvs) a) (t : kvs.all (fun p => isTp p.1) = true) : ∃ ks xs, TpV X ι H s.heap a kvs ks xs := by
  rcases o with ⟨gs, h1, h2⟩ | ⟨ks, h1, h2, hne⟩
  · obtain ⟨z, hd, vs, rel, dd⟩ := dk_rd I.hok (.inl h1)
    obtain ⟨rfl, rfl⟩ := dr_fl h2 t
    cases rel
    obtain ⟨o, es, ep, ho, hx, hda, hk, hp, hn⟩ := dd
    have e0 : es.toList = [] := by
      cases q : es.toList with
      | nil => rfl
      | cons e r => rw [q] at hp; cases hp
    exact ⟨[], [], hd, by simp, .nil, .nil, o, es, ep, ho, hx, hda, by rw [e0]; rfl, fun _ z => by simp at z, List.nodup_nil⟩
  · obtain ⟨z1, z2, xs, z3, z4⟩ := nd_at I h1 h2
    exact ⟨ks, xs, z1, z2, h2, z4, z3⟩
end
/-! ### finding, storing -/
inductive OptR {α β : Type} (r : α → β → Prop) : Option α → Option β → Prop
  | none : OptR r none none
  | some {a : α} {b : β} : r a b → OptR r (some a) (some b)
theorem OptR.isSome {α β : Type} {r : α → β → Prop} {a : Option α} {b : Option β} (h : OptR r a b) : a.isSome = b.isSome := by cases h <;> rfl
theorem dfind_cons {p : AV × AV} {r : List (AV × AV)} {k : NestedKey} : dfind (p :: r) k = if p.1.key = some k then some p.2 else dfind r k := by
  unfold dfind
  by_cases h : p.1.key = some k
  · rw [if_pos h, List.find?_cons, decide_eq_true h]; rfl
  · rw [if_neg h, List.find?_cons, decide_eq_false h]
theorem dhas_find (kvs : List (AV × AV)) (k : NestedKey) : dhas kvs k = (dfind kvs k).isSome := by
  induction kvs with
  | nil => rfl
  | cons p r ih =>
    rw [dfind_cons]
    unfold dhas at ih ⊢
    rw [List.any_cons]
    by_cases h : p.1.key = some k
    · rw [decide_eq_true h, if_pos h]; rfl
    · rw [decide_eq_false h, if_neg h, ← ih]; rfl
theorem valueAt_cons {K : Type} [DecidableEq K] {p : K × Value} {r : List (K × Value)} {k : K} : valueAt (p :: r) k = if p.1 = k then some p.2 else valueAt r k := by
  unfold valueAt
  by_cases h : p.1 = k
  · rw [if_pos h, List.find?_cons, decide_eq_true h]; rfl
  · rw [if_neg h, List.find?_cons, decide_eq_false h]
theorem atKey_cons {p : NestedKey × Addr × Value} {r : List (NestedKey × Addr × Value)} {k : NestedKey} : atKey (p :: r) k = if p.1 = k then some p.2 else atKey r k := by
  unfold atKey
  by_cases h : p.1 = k
  · rw [if_pos h, List.find?_cons, decide_eq_true h]; rfl
  · rw [if_neg h, List.find?_cons, decide_eq_false h]
section
variable [Tb] {X : Cx} {W : WX} {pins : List (Addr × Obj)} {σ0 : L2.St} {s : Shared} {κ : Cfg} {ι : List Addr} {H : Hp} {a : Addr} {kvs : List (AV × AV)}
abbrev VRV (κ : Cfg) (ι : List Addr) (H : Hp) (x : AV) (u : Value) : Prop := ∃ v, VR κ ι H x v ∧ RelV v u
theorem fl_find {b : AV} {y : Key} {k : NestedKey} (hb : KR b y) (hk : b.key = some k) : ∀ {kvs : List (AV × AV)} {gs : List (Key × V)} {vs : List (Key × Value)}, DR κ ι H kvs gs → KV gs vs → OptR (VRV κ ι H) (dfind kvs k) (valueAt vs y)
  | _, _, _, .nil, .nil => .none
  | p :: _, _, _, .cons r t, .cons q n => by
    rw [dfind_cons, valueAt_cons]
    obtain ⟨k', e1, e2⟩ := hb.key
    have ek : k = k' := by rw [hk] at e1; exact Option.some.inj e1
    subst ek
    have := e2 r.1
    rw [q.1] at this
    by_cases h : p.1.key = some k
    · rw [if_pos h, if_pos (this.mp h)]
      exact .some ⟨_, r.2, q.2⟩
    · rw [if_neg h, if_neg fun z => h (this.mpr z)]
      exact fl_find hb hk t n
theorem tp_find {k : NestedKey} : ∀ {kvs : List (AV × AV)} {ks : List (NestedKey × Addr × V)} {xs : List (NestedKey × Addr × Value)}, TR κ ι H kvs ks → NR ks xs → OptR (fun x (p : Addr × Value) => VRV κ ι H x p.2) (dfind kvs k) (atKey xs k)
  | _, _, _, .nil, .nil => .none
  | p :: _, _, _, .cons r t, .cons q n => by
    rw [dfind_cons, atKey_cons]
    have e : ∀ {p : AV × AV} {q : NestedKey}, p.1.key = some q → (p.1.key = some k ↔ q = k) := fun {p q} e => by rw [e]; exact ⟨Option.some.inj, fun z => by rw [z]⟩
    have e1 := e r.1
    rw [q.1] at e1
    by_cases h : p.1.key = some k
    · rw [if_pos h, if_pos (e1.mp h)]
      exact .some ⟨_, r.2.2.2, q.2.2⟩
    · rw [if_neg h, if_neg fun z => h (e1.mpr z)]
      exact tp_find t n
theorem DR.app {l l' : List (AV × AV)} {g g' : List (Key × V)} (h : DR κ ι H l g) (h' : DR κ ι H l' g') : DR κ ι H (l ++ l') (g ++ g') := by
  unfold DR at h h' ⊢
  induction h with
  | nil => exact h'
  | cons r _ ih => exact .cons r ih
theorem fl_put {b : AV} {y : Key} {k : NestedKey} {x : AV} {v : V} (hb : KR b y) (hk : b.key = some k) (hx : VR κ ι H x v) {gs : List (Key × V)} (h : DR κ ι H kvs gs) : DR κ ι H (dput kvs b k x) (putK gs y v) := by
  obtain ⟨k', e1, e2⟩ := hb.key
  have ek : k = k' := by rw [hk] at e1; exact Option.some.inj e1
  subst ek
  have eh : dhas kvs k = gs.any fun kv => decide (kv.1 = y) := by
    unfold dhas
    unfold DR at h
    induction h with
    | nil => rfl
    | cons r _ ih =>
      rw [List.any_cons, List.any_cons, ih]
      congr 1
      exact decide_eq_decide.mpr (e2 r.1)
  unfold dput putK
  rw [eh]
  split
  · rename_i z
    unfold DR at h ⊢
    clear eh z
    induction h with
    | nil => exact .nil
    | @cons p q _ _ r _ ih =>
      rw [List.map_cons, List.map_cons]
      refine .cons ?_ ih
      by_cases hh : p.1.key = some k
      · rw [if_pos hh, if_pos ((e2 r.1).mp hh)]; exact ⟨r.1, hx⟩
      · rw [if_neg hh, if_neg fun z => hh ((e2 r.1).mpr z)]; exact r
  · exact h.app (.cons ⟨hb, hx⟩ .nil)
theorem dput_ne {kvs : List (AV × AV)} {b c : AV} {k : NestedKey} : dput kvs b k c ≠ [] := by
  unfold dput
  split
  · rename_i h
    cases kvs with
    | nil => cases h
    | cons p r => simp
  · simp
/-- the same with tuples -/
def putN (ks : List (NestedKey × Addr × V)) (k : NestedKey) (b : Addr) (v : V) : List (NestedKey × Addr × V) :=
  if (ks.any fun p => decide (p.1 = k)) = true then ks.map (fun p => if p.1 = k then (p.1, p.2.1, v) else p) else ks ++ [(k, b, v)]
theorem putN_len (ks : List (NestedKey × Addr × V)) (k : NestedKey) (b : Addr) (v : V) : (putN ks k b v).length ≤ ks.length + 1 := by
  unfold putN
  split <;> simp
theorem tp_put {b : AV} {p0 : Addr} {k : NestedKey} {x : AV} {v : V} (hb : VR κ ι H b (.ref p0)) (hk : b.key = some k) (hd : k.depth ≤ 8) (hx : VR κ ι H x v) {ks : List (NestedKey × Addr × V)} (h : TR κ ι H kvs ks) : TR κ ι H (dput kvs b k x) (putN ks k p0 v) := by
  have e : ∀ {p : AV × AV} {q : NestedKey}, p.1.key = some q → (p.1.key = some k ↔ q = k) := fun {p q} e => by rw [e]; exact ⟨Option.some.inj, fun z => by rw [z]⟩
  have eh : dhas kvs k = ks.any fun p => decide (p.1 = k) := by
    unfold dhas
    unfold TR at h
    induction h with
    | nil => rfl
    | cons r _ ih =>
      rw [List.any_cons, List.any_cons, ih]
      congr 1
      exact decide_eq_decide.mpr (e r.1)
  unfold dput putN
  rw [eh]
  split
  · rename_i z
    unfold TR at h ⊢
    clear eh z
    induction h with
    | nil => exact .nil
    | @cons p q _ _ r _ ih =>
      rw [List.map_cons, List.map_cons]
      refine .cons ?_ ih
      by_cases hh : p.1.key = some k
      · rw [if_pos hh, if_pos ((e r.1).mp hh)]; exact ⟨r.1, r.2.1, r.2.2.1, hx⟩
      · rw [if_neg hh, if_neg fun z => hh ((e r.1).mpr z)]; exact r
  · rename_i z
    unfold TR at h ⊢
    clear eh z
    induction h with
    | nil => exact .cons ⟨hk, hb, hd, hx⟩ .nil
    | cons r _ ih => exact .cons r ih
theorem nr_put {k : NestedKey} {b : Addr} {v : V} {u : Value} (r : RelV v u) {ks : List (NestedKey × Addr × V)} {xs : List (NestedKey × Addr × Value)} (h : NR ks xs) : NR (putN ks k b v) (storedH xs k b u) := by
  have eh : (ks.any fun p => decide (p.1 = k)) = (atKey xs k).isSome := by
    induction h with
    | nil => rfl
    | @cons p q _ _ r _ ih =>
      rw [List.any_cons, ih, atKey_cons, r.1]
      by_cases hh : q.1 = k
      · rw [decide_eq_true hh, if_pos hh]; rfl
      · rw [decide_eq_false hh, if_neg hh]; rfl
  unfold putN storedH
  rw [eh]
  split
  · rename_i z
    clear eh z
    induction h with
    | nil => exact .nil
    | @cons p q _ _ r' _ ih =>
      rw [List.map_cons, List.map_cons]
      refine .cons ?_ ih
      unfold putAt
      rw [r'.1]
      by_cases hh : q.1 = k
      · rw [if_pos hh, if_pos hh]; exact ⟨rfl, r'.2.1, r⟩
      · rw [if_neg hh, if_neg hh]; exact r'
  · rename_i z
    clear eh z
    induction h with
    | nil => exact .cons ⟨rfl, rfl, r⟩ .nil
    | cons r' _ ih => exact .cons r' ih

/-! ### the two ways of asking a dict -/
theorem vr_tp {a : AV} {v : V} (t : isTp a = true) (h : VR κ ι H a v) : ∃ p, v = .ref p := by
  cases a with
  | tup xs => rw [vr_tup] at h; obtain ⟨p, _, e, _⟩ := h; exact ⟨p, e⟩
  | _ => cases t
theorem kr_v {a : AV} {y : Key} {v : V} {u : Value} (k : KR a y) (h : VR κ ι H a v) (r : RelV v u) : (mixKind X.prog X.w).is y u = true := by
  refine kV_is ?_
  cases k with
  | int i => rw [vr_int] at h; subst h; exact r
  | str i => rw [vr_str] at h; subst h; exact r
theorem dk2_cases {α : Type} {d a : AV} {M : AH} {f : Nat → List (AV × AV) → NestedKey → R α} {β : Type} {κ : Cfg} {rel : List Addr → Hp → α → β → Prop} {vs : Loc} {σ : L2.St} {Q : β → Hp → Prop} (o : Out κ W rel ι vs σ H Q (dk2 d a M f)) :
    ∃ i kvs k, d = .ref i ∧ M[i]? = some (.dct kvs) ∧ a.key = some k ∧ dOk a k kvs = true ∧ Out κ W rel ι vs σ H Q (f i kvs k) := by
  unfold dk2 at o
  split at o
  · rename_i i kvs k e1 e2
    split at o
    · rename_i hk
      unfold dctOf at e1
      split at e1
      · rename_i j
        split at e1
        · rename_i kvs' q
          cases e1
          exact ⟨_, _, _, rfl, q, e2, hk, o⟩
        · cases e1
      · cases e1
    · exact o.elim
  · exact o.elim
theorem dOk_cases {a : AV} {k : NestedKey} {kvs : List (AV × AV)} (h : dOk a k kvs = true) : (isFl a = true ∧ kvs.all (fun p => isFl p.1) = true) ∨ (isTp a = true ∧ kvs.all (fun p => isTp p.1) = true ∧ k.depth ≤ 8) := by
  unfold dOk at h
  simp only [Bool.or_eq_true, Bool.and_eq_true, decide_eq_true_eq] at h
  rcases h with h | h
  · exact .inl h
  · exact .inr ⟨h.1.1, h.1.2, h.2⟩
theorem room8 {A : Around} {P : Program} {w : World} (hu : A.units + 64 < cLine) : (nestedKind P w).room A.in1 := by show A.units + 1 + 8 < cLine; omega
theorem in_dct (neg : Bool) (hu : X.A.units + 64 < cLine) : OpR X (compareOp (if neg then .NotIn else .In)) (rd2 (kf X) W (dInA neg)) := by
  intro pins s σ0 H x y v u Q I rx ry ⟨ι, vs, M, σ, a, b, hr, ha, hb, o⟩
  obtain ⟨i, kvs, k, rfl, q, hk, ok, o⟩ := dk2_cases o
  rw [vr_ref] at hb
  obtain ⟨p, ei, rfl⟩ := hb
  cases ry
  have ho := hr.rep.at_ q ei
  rcases dOk_cases ok with ⟨f1, f2⟩ | ⟨f1, f2, f3⟩
  · obtain ⟨gs, ws, h1, h2, h3, h4, h5⟩ := flV I ho f2
    obtain ⟨y, hy⟩ := fl_kr f1
    have e : dhas kvs k = (valueAt ws y).isSome := by
      rw [dhas_find]
      exact (fl_find hy hk h3 h4).isSome
    cases neg with
    | false => exact wpAny_in_of (kr_v hy ha rx) h1 h5.mapOf ⟨.bl _, H, I.tok _, rfl, Out.fin hr o (by rw [vr_bl, e]; rfl)⟩
    | true => exact wpAny_notIn_of (kr_v hy ha rx) h1 h5.mapOf ⟨.bl _, H, I.tok _, rfl, Out.fin hr o (by rw [vr_bl, e]; rfl)⟩
  · obtain ⟨ks, xs, h1, h2, h3, h4, h5⟩ := tpV I ho f2
    obtain ⟨p2, rfl⟩ := vr_tp f1 ha
    have hx := rx
    cases rx
    have e : dhas kvs k = (atKey xs k).isSome := by
      rw [dhas_find]
      exact (tp_find h3 h4).isSome
    cases neg with
    | false => exact wpAny_in_heap (room8 hu) ⟨key_is I ha hx hk, f3⟩ h1 h5 ⟨.bl _, H, I.tok _, rfl, Out.fin hr o (by rw [vr_bl, e]; rfl)⟩
    | true => exact PyProof.Rows.wpAny_notIn_heap (room8 hu) ⟨key_is I ha hx hk, f3⟩ h1 h5 ⟨.bl _, H, I.tok _, rfl, Out.fin hr o (by rw [vr_bl, e]; rfl)⟩
end

/-! ### items, stores -/
section
variable [Tb] {X : Cx} {W : WX} {e o : Expr} {es : List Expr} {apos cpos : Pos} {c : CE} {r : CA} {name : Str}
theorem dct_typeIs {pins : List (Addr × Obj)} {σ0 : L2.St} {s : Shared} {H : Hp} {ι : List Addr} {a : Addr} {kvs : List (AV × AV)} (I : Inv X pins σ0 H s) (o : OR (kf X) ι H (.dct kvs) a) : s.TypeIs (.ref a) "dict" ∧ ∃ ob, s.heap.get? a = some ob ∧ ob.dict = none := by
  rcases o with ⟨gs, h1, h2⟩ | ⟨ks, h1, h2, hne⟩
  · obtain ⟨z, hd, vs, rel, o, es, ep, ho, hx, _⟩ := dk_rd I.hok (.inl h1)
    exact ⟨⟨o, ho, hx.1⟩, o, ho, hx.2.1⟩
  · obtain ⟨z1, z2, xs, ⟨o, es, ep, ho, hx, _⟩, z4⟩ := nd_at I h1 h2
    exact ⟨⟨o, ho, hx.1⟩, o, ho, hx.2.1⟩
theorem ix_dct (hu : X.A.units + 64 < cLine) : IxR X (rd2 (kf X) W dGetA) := by
  intro value slice pins s σ0 H x y v u Q I rx ry ⟨ι, vs, M, σ, a, b, hr, ha, hb, o⟩ hs
  obtain ⟨i, kvs, k, rfl, q, hk, ok, o⟩ := dk2_cases o
  rw [vr_ref] at ha
  obtain ⟨p, ei, rfl⟩ := ha
  cases rx
  have ho := hr.rep.at_ q ei
  obtain ⟨hT, _⟩ := dct_typeIs I ho
  cases e : dfind kvs k with
  | none => rw [e] at o; exact o.elim
  | some z =>
    rw [e] at o
    have o : Out (kf X) W (VR (kf X)) ι vs σ H Q (.ok z M) := o
    rcases dOk_cases ok with ⟨f1, f2⟩ | ⟨f1, f2, f3⟩
    · obtain ⟨gs, ws, h1, h2, h3, h4, h5⟩ := flV I ho f2
      obtain ⟨y', hy⟩ := fl_kr f1
      have f := fl_find hy hk h3 h4
      rw [e] at f
      cases f' : valueAt ws y' with
      | none => rw [f'] at f; cases f
      | some w' =>
        rw [f'] at f
        cases f with
        | some fr =>
          obtain ⟨z', g1, g2⟩ := fr
          exact PyProof.Rows.subscriptTail_builtinR (x := w') hT PySem.F.slot_dict_getitem.lookup (wpAny_getItem_of (Q := fun r s' => r = w' ∧ EP X pins σ0 Q r s') (kr_v hy hb ry) h5.mapOf f' ⟨rfl, z', H, I.tok _, g2, Out.fin hr o g1⟩) hs
    · obtain ⟨ks, xs, h1, h2, h3, h4, h5⟩ := tpV I ho f2
      obtain ⟨p2, rfl⟩ := vr_tp f1 hb
      have hx := ry
      cases ry
      have f := tp_find (k := k) h3 h4
      rw [e] at f
      cases f' : atKey xs k with
      | none => rw [f'] at f; cases f
      | some w' =>
        rw [f'] at f
        cases f with
        | some fr =>
          obtain ⟨z', g1, g2⟩ := fr
          exact PyProof.Rows.subscriptTail_builtinR (x := w'.2) hT PySem.F.slot_dict_getitem.lookup (wpAny_getItem_heap (Q := fun r s' => r = w'.2 ∧ EP X pins σ0 Q r s') (room8 hu) ⟨key_is I hb hx hk, f3⟩ h5 f' ⟨rfl, z', H, I.tok _, g2, Out.fin hr o g1⟩) hs
/-- a dict of ours is written -/
theorem Keep.dct {κ : Cfg} {ι : List Addr} {H : Hp} {a : Addr} {kvs : List (AV × AV)} {o' : HO} (o : OR κ ι H (.dct kvs) a) : Keep H (upd H a o') := by
  rcases o with ⟨gs, h1, h2⟩ | ⟨ks, h1, h2, hne⟩
  · exact Keep.mut h1 (fun _ z => by cases z) fun _ _ z => by cases z
  · exact Keep.mut h1 (fun _ z => by unfold NdO at z; cases z) fun _ _ z => by unfold NdO at z; cases z
theorem mut_dct {κ : Cfg} {ι : List Addr} {H : Hp} {a : Addr} {kvs : List (AV × AV)} (o : OR κ ι H (.dct kvs) a) : Mut (H a) := by
  rcases o with ⟨gs, h1, h2⟩ | ⟨ks, h1, h2, hne⟩
  · rw [h1]; exact True.intro
  · rw [h1]; unfold NdO; exact True.intro
theorem nd_new {P : Program} {w : World} {H : Hp} {h : Heap} {a : Addr} {ks : List (NestedKey × Addr × V)} {xs : List (NestedKey × Addr × Value)} (h1 : (a == sysModules) = false) (h2 : ks.length ≤ sizeLine) (n : NR ks xs) (d : h.DictOfH (nestedKind P w) a xs) : ObjOk P w H h a (NdO P w a ks) := by
  obtain ⟨o, es, ep, ho, hx, hd, he, _, hn⟩ := d
  exact ⟨⟨h1, h2, o, es, ep, xs, ho, hx, hd, he, n, hn⟩, ⟨o, ho⟩, fun h1' h2' ⟨a1, a2, o, es, ep, xs, a3, a4⟩ k => ⟨a1, a2, o, es, ep, xs, k _ a3, a4⟩⟩
/-- the store itself, for d[k] = v and setdefault -/
theorem put_go (hu : X.A.units + 64 < cLine) {pins : List (Addr × Obj)} {σ0 : L2.St} {s : Shared} {H : Hp} {ι : List Addr} {vs : Loc} {M : AH} {σ : L2.St} {i : Nat} {kvs : List (AV × AV)} {k : NestedKey} {b c : AV} {p : Addr} {y v : V} {u : Value}
    (I : Inv X pins σ0 H s) (hr : Rel (kf X) ι vs M σ H) (q : M[i]? = some (.dct kvs)) (ei : ι[i]? = some p) (hb : VR (kf X) ι H b y) (ry : RelV y u) (hc : VR (kf X) ι H c v) (ok : dOk b k kvs = true) (hk : b.key = some k) (hl : kvs.length < sizeLine) :
    (∃ gs ws y', FlV X ι H s.heap p kvs gs ws ∧ KR b y' ∧ (mixKind X.prog X.w).is y' u = true ∧
      ∀ (h' : Heap) (r : Value) (t' : Nat), RelV v r → h'.DictOf (mixKind X.prog X.w) p (stored ws y' r) → Heap.SameBut p s.heap h' → ∃ H', Inv X pins σ0 H' { s with heap := h', toks := t' } ∧ Keep H H' ∧ Rel (kf X) ι vs (M.set i (.dct (dput kvs b k c))) σ H') ∨
    ∃ ks xs p2, TpV X ι H s.heap p kvs ks xs ∧ y = .ref p2 ∧ u = .ref p2 ∧ (nestedKind X.prog X.w).is s.heap k p2 ∧
      ∀ (h' : Heap) (r : Value) (t' : Nat), RelV v r → h'.DictOfH (nestedKind X.prog X.w) p (storedH xs k p2 r) → Heap.SameBut p s.heap h' → ∃ H', Inv X pins σ0 H' { s with heap := h', toks := t' } ∧ Keep H H' ∧ Rel (kf X) ι vs (M.set i (.dct (dput kvs b k c))) σ H' := by
  have ho := hr.rep.at_ q ei
  have hm := mut_dct ho
  obtain ⟨uo, huo⟩ := ho.there
  rcases dOk_cases ok with ⟨f1, f2⟩ | ⟨f1, f2, f3⟩
  · obtain ⟨gs, ws, h1, h2, h3, h4, h5⟩ := flV I ho f2
    obtain ⟨y', hy⟩ := fl_kr f1
    refine .inl ⟨gs, ws, y', ⟨h1, h2, h3, h4, h5⟩, hy, kr_v hy hb ry, fun h' r t' rr d sb => ?_⟩
    have hk' : Keep H (upd H p (.dK (putK gs y' v))) := Keep.dct ho
    have hlen : (putK gs y' v).length ≤ sizeLine := by
      have := length_putK gs y' v
      have := Paired.length h3
      omega
    refine ⟨upd H p (.dK (putK gs y' v)), d_write I hm sb (let ⟨o, _, _, ho, _⟩ := d; ⟨o, ho⟩) (dk_new hlen h1 (h4.put y' rr) d), hk', ?_⟩
    exact hr.set ei huo hk' (.inl ⟨_, upd_same, fl_put hy hk (hc.mono (List.prefix_refl _) hk') (Paired.mapP h3 fun p q r => ⟨r.1, r.2.mono (List.prefix_refl _) hk'⟩)⟩) fun ps z => by rw [huo, z] at hm; exact hm
  · obtain ⟨ks, xs, h1, h2, h3, h4, h5⟩ := tpV I ho f2
    obtain ⟨p2, rfl⟩ := vr_tp f1 hb
    have hx := ry
    cases ry
    refine .inr ⟨ks, xs, p2, ⟨h1, h2, h3, h4, h5⟩, rfl, rfl, ⟨key_is I hb hx hk, f3⟩, fun h' r t' rr d sb => ?_⟩
    have hk' : Keep H (upd H p (NdO X.prog X.w p (putN ks k p2 v))) := Keep.dct ho
    have hlen : (putN ks k p2 v).length ≤ sizeLine := by
      have := putN_len ks k p2 v
      have := Paired.length h3
      omega
    refine ⟨upd H p (NdO X.prog X.w p (putN ks k p2 v)), d_write I hm sb (let ⟨o, _, _, ho, _⟩ := d; ⟨o, ho⟩) (nd_new h1 hlen (nr_put rr h4) d), hk', ?_⟩
    exact hr.set ei huo hk' (.inr ⟨_, upd_same, tp_put (hb.mono (List.prefix_refl _) hk') hk f3 (hc.mono (List.prefix_refl _) hk') (Paired.mapP h3 fun p q r => ⟨r.1, r.2.1.mono (List.prefix_refl _) hk', r.2.2.1, r.2.2.2.mono (List.prefix_refl _) hk'⟩), dput_ne⟩) fun ps z => by rw [huo, z] at hm; exact hm
theorem st_dct (hu : X.A.units + 64 < cLine) : PSet X (rdSet (kf X) W dPutA) := by
  intro pins s σ0 H o i v ov iv u Q I ro ri rv ⟨ι, vs, M, σ, a, b, c, hr, ha, hb, hc, oo⟩
  obtain ⟨j, kvs, k, rfl, q, hk, ok, oo⟩ := dk2_cases oo
  rw [vr_ref] at ha
  obtain ⟨p, ei, rfl⟩ := ha
  cases ro
  split at oo
  · rename_i hl
    rcases put_go hu I hr q ei hb ri hc ok hk hl with ⟨gs, ws, y', fv, hy, hm, go⟩ | ⟨ks, xs, p2, tv, rfl, rfl, hm, go⟩
    · obtain ⟨h1, h2, h3, h4, h5⟩ := fv
      refine wpAny_setItem_pairs (hsz := by rw [← h4.length]; exact h2) hm h5 fun h' d sb => ?_
      obtain ⟨H', I', k', r'⟩ := go h' u _ rv d sb
      exact ⟨H', I', oo ι H' () (List.prefix_refl _) k' r' trivial⟩
    · obtain ⟨h1, h2, h3, h4, h5⟩ := tv
      refine wpAny_setItem_heap (hsz := by rw [← Paired.length h4]; exact h2) (room8 hu) hm h5 fun h' d sb => ?_
      obtain ⟨H', I', k', r'⟩ := go h' u _ rv d sb
      exact ⟨H', I', oo ι H' () (List.prefix_refl _) k' r' trivial⟩
  · exact oo.elim
/-- {} -/
theorem ev_newD {pos : Pos} : EvE X W (.Dict [] [] pos) (fun _ M => newD M) := PE.imp pe_dnewK fun σ H Q ⟨ι, vs, M, hr, o⟩ p hp => by
  have hk := Keep.new (o := .dK []) hp
  refine o (ι ++ [p]) _ _ (List.prefix_append _ _) hk (hr.snoc hp (.inl ⟨[], upd_same, .nil⟩)) ?_
  rw [vr_ref]
  refine ⟨p, ?_, rfl⟩
  rw [← hr.rep.len]
  simp

/-! ### all together -/
def isD (a : AV) (M : AH) : Bool := (dctOf a M).isSome
def opIn (neg : Bool) (a b : AV) (M : AH) : R AV := if isD b M = true then dInA neg a b M else opInS neg a b M
def opIx (a b : AV) (M : AH) : R AV := if isD a M = true then dGetA a b M else opIxS a b M
def setA (o i v : AV) (M : AH) : R Unit := if isD o M = true then dPutA o i v M else setL o i v M
theorem ok_In (hu : X.A.units + 65 < cLine) : OpR X (compareOp .In) (rd2 (kf X) W (opIn false)) := by
  intro pins s σ0 H x y v u Q I rx ry ⟨ι, vs, M, σ, a, b, hr, ha, hb, o⟩
  unfold opIn at o
  split at o
  · exact in_dct false (by omega) pins s σ0 H x y v u Q I rx ry ⟨ι, vs, M, σ, a, b, hr, ha, hb, o⟩
  · exact ok_in hu pins s σ0 H x y v u Q I rx ry ⟨ι, vs, M, σ, a, b, hr, ha, hb, o⟩
theorem ok_NotIn (hu : X.A.units + 65 < cLine) : OpR X (compareOp .NotIn) (rd2 (kf X) W (opIn true)) := by
  intro pins s σ0 H x y v u Q I rx ry ⟨ι, vs, M, σ, a, b, hr, ha, hb, o⟩
  unfold opIn at o
  split at o
  · exact in_dct true (by omega) pins s σ0 H x y v u Q I rx ry ⟨ι, vs, M, σ, a, b, hr, ha, hb, o⟩
  · exact ok_notin hu pins s σ0 H x y v u Q I rx ry ⟨ι, vs, M, σ, a, b, hr, ha, hb, o⟩
theorem ix_all (hu : X.A.units + 64 < cLine) : IxR X (rd2 (kf X) W opIx) := by
  intro value slice pins s σ0 H x y v u Q I rx ry ⟨ι, vs, M, σ, a, b, hr, ha, hb, o⟩ hs
  unfold opIx at o
  split at o
  · exact ix_dct hu value slice pins s σ0 H x y v u Q I rx ry ⟨ι, vs, M, σ, a, b, hr, ha, hb, o⟩ hs
  · exact ix_seqA value slice pins s σ0 H x y v u Q I rx ry ⟨ι, vs, M, σ, a, b, hr, ha, hb, o⟩ hs
theorem st_all (hu : X.A.units + 64 < cLine) : PSet X (rdSet (kf X) W setA) := by
  intro pins s σ0 H o i v ov iv u Q I ro ri rv ⟨ι, vs, M, σ, a, b, c, hr, ha, hb, hc, oo⟩
  unfold setA at oo
  split at oo
  · exact st_dct hu pins s σ0 H o i v ov iv u Q I ro ri rv ⟨ι, vs, M, σ, a, b, c, hr, ha, hb, hc, oo⟩
  · exact st_list pins s σ0 H o i v ov iv u Q I ro ri rv ⟨ι, vs, M, σ, a, b, c, hr, ha, hb, hc, oo⟩

/-! ### methods of built-in types, by the receiver's kind -/
def kindA (a : AV) (M : AH) : String := match a with
  | .str _ => "str"
  | .ref i => match M[i]? with
    | some (.lst _) => "list"
    | some (.frz _) => "list"
    | some (.dct _) => "dict"
    | _ => ""
  | _ => ""
abbrev MFun := String → Option (AV → List AV → AH → R AV)
def methK (f : MFun) (c : CE) (r : CA) : CE := fun vs M => (c vs M).bind fun a M1 => match f (kindA a M1) with
  | some op => (r vs M1).bind fun as M2 => op a as M2
  | none => .bad
def MFact (X : Cx) (W : WX) (name : Str) (f : MFun) : Prop := ∀ T op, f T = some op → (T = "str" ∨ T = "list" ∨ T = "dict") ∧ ∃ id, PlainAttrs T ∧ Slot T name id ∧ typeOf (.builtin id) = pure (.type "method_descriptor") ∧ MtR X id (rdM (kf X) W op)
theorem kind_is {pins : List (Addr × Obj)} {σ0 : L2.St} {s : Shared} {H : Hp} {ι : List Addr} {vs : Loc} {M : AH} {σ : L2.St} {a : AV} {x : V} {v : Value} {T : String} (I : Inv X pins σ0 H s) (hr : Rel (kf X) ι vs M σ H) (ha : VR (kf X) ι H a x) (r : RelV x v) (hT : kindA a M = T) (h3 : T = "str" ∨ T = "list" ∨ T = "dict") :
    s.TypeIs v T ∧ ∀ a, v = .ref a → ∃ ob, s.heap.get? a = some ob ∧ ob.dict = none := by
  subst hT
  unfold kindA at h3 ⊢
  split
  · rw [vr_str] at ha; subst ha
    obtain ⟨t, rfl⟩ := r
    exact ⟨typeIs_str s _ t, fun _ e => nomatch e⟩
  · rename_i i
    rw [vr_ref] at ha
    obtain ⟨p, ei, rfl⟩ := ha
    cases r
    split
    · rename_i xs q
      obtain ⟨ws, h1, h2⟩ := hr.rep.at_ q ei
      exact tyV_is (x := .ref p) I rfl (.inl ⟨rfl, ws, SqL.of h1⟩)
    · rename_i xs q
      obtain ⟨ob, ws, h1, h2⟩ := hr.rep.at_ q ei
      exact tyV_is (x := .ref p) I rfl (.inl ⟨rfl, ws, .inl (.inr ⟨ob, h1⟩)⟩)
    · rename_i kvs q
      obtain ⟨h1, ob, h2, h3⟩ := dct_typeIs I (hr.rep.at_ q ei)
      exact ⟨h1, fun a e => by cases e; exact ⟨ob, h2, h3⟩⟩
    · rename_i z1 z2 z3
      split at h3 <;> simp_all
  · rename_i z1 z2
    exfalso
    split at h3 <;> simp_all
theorem ev_meth0 {f : MFun} (hf : MFact X W name f) (ho : EvE X W o c) (hbase : attributeBase o name X.env (eval o X.env) = eval o X.env := by rfl) (hline : (apos.endLine == cpos.line) = true := by rfl) : EvE X W (.Call (.Attribute o name apos) [] [] cpos) (methK f c nilA) := by
  refine ⟨fun pins s σ H Q I ⟨ι, vs, M, hr, oo⟩ => ?_⟩
  refine wpAny_Call_method0_late hbase hline (thn (ho.run pins s σ H _ I (Out.run (Q1 := fun x H1 => ∃ T op, f T = some op ∧ rdM (kf X) W op x [] H1 Q ∧ ∃ ι vs M a, Rel (kf X) ι vs M σ H1 ∧ VR (kf X) ι H1 a x ∧ kindA a M = T) hr oo fun ι1 a M1 v H1 h1 h2 h3 h4 h5 => ?_)) fun v s1 ⟨x, H1, I1, r1, T, op, hT, q1, ι1, vs1, M1, a1, g1, g2, g3⟩ => ?_)
  · split at h5
    · rename_i op e
      exact ⟨_, op, e, ⟨ι1, vs, M1, σ, a, [], h3, h4, .nil, h5⟩, ι1, vs, M1, a, h3, h4, rfl⟩
    · exact h5.elim
  · obtain ⟨k3, id, pa, slot, hty, hm⟩ := hf T op hT
    obtain ⟨h1, h2⟩ := kind_is I1 g1 g2 r1 g3 k3
    exact ⟨T, id, pa, slot, hty, h1, h2, Calls.callWith_builtin rfl (PySem.evalArgs_none (hm pins s1 σ H1 x [] v [] Q I1 r1 .nil q1))⟩
theorem ev_meth {f : MFun} (hf : MFact X W name f) (ho : EvE X W o c) (ha : EvA X W (e :: es) r)
    (hbase : attributeBase o name X.env (eval o X.env) = eval o X.env := by rfl)
    (hfew : ((backTo cpos (starEach (e :: es) X.env)).all (fun x => !x.1) && (backToKw cpos (keywordEach [] X.env)).all (fun x => x.1.isSome)
      && decide ((e :: es).length + ([] : List Keyword).length + (if ([] : List Keyword).isEmpty then 0 else 1) < 30)) = true := by rfl)
    (hline : (apos.endLine == cpos.line) = true := by rfl) (hs : starEach (e :: es) X.env = (false, eval e X.env) :: starEach es X.env := by rfl) (hplain : (backTo cpos (starEach es X.env)).any (·.1) = false := by rfl) :
    EvE X W (.Call (.Attribute o name apos) (e :: es) [] cpos) (methK f c r) := by
  refine ⟨fun pins s σ H Q I ⟨ι, vs, M, hr, oo⟩ => ?_⟩
  refine wpAny_Call_method_late hbase hfew hline rfl (thn (ho.run pins s σ H _ I (Out.run (Q1 := fun x H1 => ∃ T op, f T = some op ∧ (∃ ι vs M a, Rel (kf X) ι vs M σ H1 ∧ VR (kf X) ι H1 a x ∧ kindA a M = T) ∧ rdA (kf X) W r σ H1 fun xs H2 => rdM (kf X) W op x xs H2 Q) hr oo fun ι1 a M1 v H1 h1 h2 h3 h4 h5 => ?_)) fun v s1 ⟨x, H1, I1, r1, T, op, hT, ⟨ι1, vs1, M1, a1, g1, g2, g3⟩, q1⟩ => ?_)
  · split at h5
    · rename_i op e'
      exact ⟨_, op, e', ⟨ι1, vs, M1, a, h3, h4, rfl⟩, Out.run h3 h5 fun ι2 as M2 ws H2 k1 k2 k3 k4 k5 => ⟨ι2, vs, M2, σ, a, as, k3, h4.mono k1 k2, k4, k5⟩⟩
    · exact h5.elim
  · obtain ⟨k3, id, pa, slot, hty, hm⟩ := hf T op hT
    obtain ⟨h1, h2⟩ := kind_is I1 g1 g2 r1 g3 k3
    refine ⟨T, id, pa, slot, hty, h1, h2, ?_⟩
    have hA := ha.run cpos pins s1 σ H1 _ I1 q1
    rw [hs] at hA ⊢
    refine Calls.callWith_builtin (by show (false || (backTo cpos (starEach es X.env)).any (·.1)) = false; rw [hplain] <;> rfl) (Calls.evalArgs_plain ?_)
    exact thn hA fun us s2 ⟨vs, H2, I2, r2, q2⟩ => hm pins s2 σ H2 x vs v us Q I2 r1 r2 q2
/-! methods of dicts -/
theorem OptR.getD {κ : Cfg} {ι : List Addr} {H : Hp} {a : Option AV} {b : Option Value} {d : AV} {d' : Value} (h : OptR (VRV κ ι H) a b) (hd : VRV κ ι H d d') : VRV κ ι H (a.getD d) (b.getD d') := by
  cases h with
  | none => exact hd
  | some r => exact r
theorem OptR.snd {κ : Cfg} {ι : List Addr} {H : Hp} {a : Option AV} {b : Option (Addr × Value)} (h : OptR (fun x (p : Addr × Value) => VRV κ ι H x p.2) a b) : OptR (VRV κ ι H) a (b.map (·.2)) := by
  cases h with
  | none => exact .none
  | some r => exact .some r
theorem mt_dget (hu : X.A.units + 64 < cLine) : MtR X "dict.get" (rdM (kf X) W mGet) := by
  intro pins s σ0 H x xs v us Q I rx rv ⟨ι, vs, M, σ, a, as, hr, ha, has, o⟩
  unfold mGet at o
  split at o
  · rename_i b
    obtain ⟨i, kvs, k, rfl, q, hk, ok, o⟩ := dk2_cases o
    obtain ⟨w, ws0, rfl, g1, g2⟩ := has.cons_inv
    obtain rfl := g2.nil_inv
    obtain ⟨u, rfl, ru⟩ := vals1 rv
    rw [vr_ref] at ha
    obtain ⟨p, ei, rfl⟩ := ha
    cases rx
    have ho := hr.rep.at_ q ei
    have hn : VRV (kf X) ι H .non .none := ⟨.non, by rw [vr_non], rfl⟩
    rcases dOk_cases ok with ⟨f1, f2⟩ | ⟨f1, f2, f3⟩
    · obtain ⟨gs, ws, h1, h2, h3, h4, h5⟩ := flV I ho f2
      obtain ⟨y', hy⟩ := fl_kr f1
      obtain ⟨z', e1, e2⟩ := (fl_find hy hk h3 h4).getD hn
      exact call_meetsIn F.slot_dict_get h5.typeIs F.entry_dict_get (F.args_dict_get_2 _ _) (meets_dict_get (mixKind X.prog X.w) (d := p) (kr_v hy g1 ru) h1) ⟨_, h5.mapOf, z', H, I.tok _, e2, Out.fin hr o e1⟩
    · obtain ⟨ks, xs, h1, h2, h3, h4, h5⟩ := tpV I ho f2
      obtain ⟨p2, rfl⟩ := vr_tp f1 g1
      have hx := ru
      cases ru
      obtain ⟨z', e1, e2⟩ := (tp_find (k := k) h3 h4).snd.getD hn
      refine get_keyed (knd := nestedKind X.prog X.w) (room8 hu) ⟨key_is I g1 hx hk, f3⟩ h1 ⟨xs, h5, rfl⟩ ?_
      rw [valueAt_pairsH]
      exact ⟨z', H, I.tok _, e2, Out.fin hr o e1⟩
  · rename_i b c
    obtain ⟨i, kvs, k, rfl, q, hk, ok, o⟩ := dk2_cases o
    obtain ⟨w, ws0, rfl, g1, g2⟩ := has.cons_inv
    obtain ⟨w2, ws1, rfl, g3, g4⟩ := g2.cons_inv
    obtain rfl := g4.nil_inv
    obtain ⟨u, u2, rfl, ru, ru2⟩ := vals2 rv
    rw [vr_ref] at ha
    obtain ⟨p, ei, rfl⟩ := ha
    cases rx
    have ho := hr.rep.at_ q ei
    have hn : VRV (kf X) ι H c u2 := ⟨w2, g3, ru2⟩
    rcases dOk_cases ok with ⟨f1, f2⟩ | ⟨f1, f2, f3⟩
    · obtain ⟨gs, ws, h1, h2, h3, h4, h5⟩ := flV I ho f2
      obtain ⟨y', hy⟩ := fl_kr f1
      obtain ⟨z', e1, e2⟩ := (fl_find hy hk h3 h4).getD hn
      exact call_meetsIn F.slot_dict_get h5.typeIs F.entry_dict_get (F.args_dict_get_3 _ _ _) (meets_dict_get_default (mixKind X.prog X.w) (d := p) (kr_v hy g1 ru) h1 u2) ⟨_, h5.mapOf, z', H, I.tok _, e2, Out.fin hr o e1⟩
    · obtain ⟨ks, xs, h1, h2, h3, h4, h5⟩ := tpV I ho f2
      obtain ⟨p2, rfl⟩ := vr_tp f1 g1
      have hx := ru
      cases ru
      obtain ⟨z', e1, e2⟩ := (tp_find (k := k) h3 h4).snd.getD hn
      refine getOr_keyed (knd := nestedKind X.prog X.w) (room8 hu) ⟨key_is I g1 hx hk, f3⟩ h1 ⟨xs, h5, rfl⟩ ?_
      rw [valueAt_pairsH]
      exact ⟨z', H, I.tok _, e2, Out.fin hr o e1⟩
  · exact o.elim
end
end AM
end

section
set_option Elab.async false
set_option linter.all false
set_option autoImplicit false
set_option maxRecDepth 100000
set_option maxHeartbeats 4000000
/-! AM 6: statements. -/
namespace AM
open PySem PySem.Spec L2

/-! ### equality of values, decided -/
mutual
def AV.beq : AV → AV → Bool
  | .non, b => match b with | .non => true | _ => false
  | .bl a, b => match b with | .bl c => a == c | _ => false
  | .int a, b => match b with | .int c => decide (a = c) | _ => false
  | .str a, b => match b with | .str c => decide (a = c) | _ => false
  | .tup a, b => match b with | .tup c => AV.beqs a c | _ => false
  | .ref a, b => match b with | .ref c => decide (a = c) | _ => false
  | .glo a, b => match b with | .glo c => decide (a = c) | _ => false
  | .ty a, b => match b with | .ty c => decide (a = c) | _ => false
def AV.beqs : List AV → List AV → Bool
  | [], l => match l with | [] => true | _ :: _ => false
  | x :: xs, l => match l with | [] => false | y :: ys => AV.beq x y && AV.beqs xs ys
end
mutual
theorem AV.beq_eq : ∀ {a b : AV}, AV.beq a b = true → a = b
  | .non, b, h => by cases b <;> simp_all [AV.beq]
  | .bl a, b, h => by cases b <;> simp_all [AV.beq]
  | .int a, b, h => by cases b <;> simp_all [AV.beq]
  | .str a, b, h => by cases b <;> simp_all [AV.beq]
  | .tup a, b, h => by
    cases b with
    | tup c => rw [AV.beq] at h; rw [AV.beqs_eq h]
    | _ => simp_all [AV.beq]
  | .ref a, b, h => by cases b <;> simp_all [AV.beq]
  | .glo a, b, h => by cases b <;> simp_all [AV.beq]
  | .ty a, b, h => by cases b <;> simp_all [AV.beq]
theorem AV.beqs_eq : ∀ {a b : List AV}, AV.beqs a b = true → a = b
  | [], b, h => by cases b <;> simp_all [AV.beqs]
  | x :: xs, b, h => by
    cases b with
    | nil => simp_all [AV.beqs]
    | cons y ys =>
      rw [AV.beqs, Bool.and_eq_true] at h
      rw [AV.beq_eq h.1, AV.beqs_eq h.2]
end
mutual
theorem AV.beq_self : ∀ a : AV, AV.beq a a = true
  | .non => rfl
  | .bl a => by simp [AV.beq]
  | .int a => by simp [AV.beq]
  | .str a => by simp [AV.beq]
  | .tup a => by rw [AV.beq]; exact AV.beqs_self a
  | .ref a => by simp [AV.beq]
  | .glo a => by simp [AV.beq]
  | .ty a => by simp [AV.beq]
theorem AV.beqs_self : ∀ a : List AV, AV.beqs a a = true
  | [] => rfl
  | x :: xs => by rw [AV.beqs, AV.beq_self x, AV.beqs_self xs]; rfl
end
instance : DecidableEq AV := fun a b => if h : AV.beq a b = true then .isTrue (AV.beq_eq h) else .isFalse fun e => h (e ▸ AV.beq_self a)

/-! ### what is walked -/
/-- the items; the lists that have to stay as they are -/
structure IT where
  items : List AV
  guard : List (Nat × List AV)
def isLst (M : AH) (p : Nat × List AV) : Bool := match M[p.1]? with
  | some (.lst xs) => decide (xs = p.2)
  | some (.frz xs) => decide (xs = p.2)
  | _ => false
def IT.ok (it : IT) (M : AH) : Bool := it.guard.all (isLst M)
abbrev CI := Loc → AH → R IT
abbrev CG := AV → Loc → AH → RS
def thenS {α : Type} (r : R α) (vs : Loc) (k : α → AH → RS) : RS := match r with
  | .ok a M => k a M
  | .exc c fs M => .exc c fs vs M
  | .bad => .bad
@[simp] theorem thenS_ok {α : Type} (a : α) (M : AH) (vs : Loc) (k : α → AH → RS) : thenS (.ok a M) vs k = k a M := rfl
def onlyG (r : RS) : RS := match r with
  | .nx vs M => .nx vs M
  | .exc c fs vs M => .exc c fs vs M
  | _ => .bad
def turnC (g : CG) (b : CS) (x : AV) (vs : Loc) (M : AH) : RS := match g x vs M with
  | .nx vs1 M1 => b vs1 M1
  | .exc c fs vs1 M1 => .exc c fs vs1 M1
  | _ => .bad
def loopC (it : IT) (g : CG) (b : CS) : List AV → CS
  | [], vs, M => if it.ok M = true then .nx vs M else .bad
  | x :: xs, vs, M => if it.ok M = true then match turnC g b x vs M with
      | .nx vs1 M1 => loopC it g b xs vs1 M1
      | .ct vs1 M1 => loopC it g b xs vs1 M1
      | .bk vs1 M1 => .nx vs1 M1
      | r => r
    else .bad
def forC (ci : CI) (g : CG) (b : CS) : CS := fun vs M => thenS (ci vs M) vs fun it M1 => loopC it g b it.items vs M1
def whileN (t : CT) (b : CS) : Nat → CS
  | 0, _, _ => .bad
  | n + 1, vs, M => thenS (t vs M) vs fun k M1 => if k = true then match b vs M1 with
      | .nx vs1 M2 => whileN t b n vs1 M2
      | .ct vs1 M2 => whileN t b n vs1 M2
      | .bk vs1 M2 => .nx vs1 M2
      | r => r
    else .nx vs M1
def wfuel : Nat := 1000000000
def whileC (t : CT) (b : CS) : CS := whileN t b wfuel
def skipC : CS := fun vs M => .nx vs M
def seqC (a b : CS) : CS := fun vs M => match a vs M with
  | .nx vs1 M1 => b vs1 M1
  | r => r
def dropC (c : CE) : CS := fun vs M => thenS (c vs M) vs fun _ M1 => .nx vs M1
def retC (c : CE) : CS := fun vs M => thenS (c vs M) vs fun a M1 => .rt a M1
def retN : CS := fun _ M => .rt .non M
def ifS (t : CT) (a b : CS) : CS := fun vs M => thenS (t vs M) vs fun k M1 => if k = true then a vs M1 else b vs M1
def contC : CS := fun vs M => .ct vs M
def breakC : CS := fun vs M => .bk vs M
def asgC (c : CE) (g : CG) : CS := fun vs M => thenS (c vs M) vs fun a M1 => onlyG (g a vs M1)
/-! targets -/
def nameG (i : Nat) : CG := fun a vs M => .nx (vs.set i (some (.val a))) M
abbrev CGs := List AV → Loc → AH → RS
def nilG : CGs := fun xs vs M => match xs with
  | [] => .nx vs M
  | _ :: _ => .bad
def consG (g : CG) (r : CGs) : CGs := fun xs vs M => match xs with
  | x :: xs => match g x vs M with
    | .nx vs1 M1 => r xs vs1 M1
    | .exc k fs vs1 M1 => .exc k fs vs1 M1
    | _ => .bad
  | [] => .bad
def tupG (n : Nat) (r : CGs) : CG := fun a vs M => match a with
  | .tup xs => if xs.length = n then r xs vs M else .bad
  | _ => .bad
def subG (co ci : CE) : CG := fun a vs M => thenS ((co vs M).bind fun o M1 => (ci vs M1).bind fun i M2 => setA o i a M2) vs fun _ M1 => .nx vs M1
/-- a, b = x, y -/
def parC (i j : Nat) (r : CA) : CS := fun vs M => thenS (r vs M) vs fun as M1 => match as with
  | [a, b] => .nx ((vs.set i (some (.val a))).set j (some (.val b))) M1
  | _ => .bad

/-! ### readings -/
section
variable (κ : Cfg) (W : WX)
def OutS (ι : List Addr) (H : Hp) (D : Ends) : RS → Prop
  | .nx vs M => ∀ ι' H' σ', ι <+: ι' → Keep H H' → Rel κ ι' vs M σ' H' → D.nx σ' H'
  | .bk vs M => ∀ ι' H' σ', ι <+: ι' → Keep H H' → Rel κ ι' vs M σ' H' → D.bk σ' H'
  | .ct vs M => ∀ ι' H' σ', ι <+: ι' → Keep H H' → Rel κ ι' vs M σ' H' → D.ct σ' H'
  | .rt a M => ∀ ι' H' v, ι <+: ι' → Keep H H' → Rep κ ι' M H' → VR κ ι' H' a v → D.rt v H'
  | .exc c fs vs M => ∀ ι' H' σ' C d, ι <+: ι' → Keep H H' → Rel κ ι' vs M σ' H' → ExR κ ι' H' c fs C d → W (.ref C) d σ' H'
  | .bad => False
def rdS (c : CS) : TS := fun D σ H => ∃ ι vs M, Rel κ ι vs M σ H ∧ OutS κ W ι H D (c vs M)
/-- an iterator that yields these items -/
def ItR (J : It) (ι0 : List Addr) (H0 : Hp) (it : IT) : Prop := ∀ (i : Nat) (ι : List Addr) (M : AH) (H : Hp), ι0 <+: ι → Keep H0 H → Rep κ ι M H → it.ok M = true →
  (∀ x, it.items[i]? = some x → J.go i H ∧ ∀ v H', J.yld i H v H' → Keep H H' ∧ (∀ a u, H a = some u → H' a = H a) ∧ VR κ ι H' x v) ∧ (i = it.items.length → J.stop i H)
def relI : List Addr → Hp → IT → It → Prop := fun ι H it J => ItR κ J ι H it
def rdI (c : CI) : TI := rd κ W (relI κ) c
def rdG (g : CG) : TG := fun v σ H Q => ∃ ι vs M a, Rel κ ι vs M σ H ∧ VR κ ι H a v ∧ OutS κ W ι H { nx := Q, rt := fun _ _ => False } (g a vs M)
def rdGs (g : CGs) : TGs := fun xs σ H Q => ∃ ι vs M as, Rel κ ι vs M σ H ∧ VRs κ ι H as xs ∧ OutS κ W ι H { nx := Q, rt := fun _ _ => False } (g as vs M)
end
section
variable {κ : Cfg} {W : WX}
theorem OutS.imp {ι : List Addr} {H : Hp} {D D' : Ends} {r : RS} (h : OutS κ W ι H D r) (k1 : ∀ σ H, D.nx σ H → D'.nx σ H) (k2 : ∀ v H, D.rt v H → D'.rt v H) (k3 : ∀ σ H, D.bk σ H → D'.bk σ H) (k4 : ∀ σ H, D.ct σ H → D'.ct σ H) : OutS κ W ι H D' r := by
  cases r with
  | nx vs M => exact fun a b c d e f => k1 _ _ (h a b c d e f)
  | bk vs M => exact fun a b c d e f => k3 _ _ (h a b c d e f)
  | ct vs M => exact fun a b c d e f => k4 _ _ (h a b c d e f)
  | rt v M => exact fun a b c d e f g => k2 _ _ (h a b c d e f g)
  | exc c fs vs M => exact h
  | bad => exact h
theorem OutS.base {ι ι' : List Addr} {H H' : Hp} {D : Ends} {r : RS} (h : OutS κ W ι H D r) (p : ι <+: ι') (k : Keep H H') : OutS κ W ι' H' D r := by
  cases r with
  | nx vs M => exact fun a b c d e f => h a b c (p.trans d) (k.trans e) f
  | bk vs M => exact fun a b c d e f => h a b c (p.trans d) (k.trans e) f
  | ct vs M => exact fun a b c d e f => h a b c (p.trans d) (k.trans e) f
  | rt v M => exact fun a b c d e f => h a b c (p.trans d) (k.trans e) f
  | exc c fs vs M => exact fun a b c' d e g f => h a b c' d e (p.trans g) (k.trans f)
  | bad => exact h
theorem OutS.fin {ι : List Addr} {H : Hp} {D : Ends} {vs : Loc} {M : AH} {σ : L2.St} (hr : Rel κ ι vs M σ H) (o : OutS κ W ι H D (.nx vs M)) : D.nx σ H := o ι H σ (List.prefix_refl _) (Keep.refl _) hr
/-- an expression, then a statement's end -/
theorem OutS.run {α β : Type} {rel : List Addr → Hp → α → β → Prop} {ι : List Addr} {vs : Loc} {M : AH} {σ : L2.St} {H : Hp} {c : Loc → AH → R α} {k : α → AH → RS} {D : Ends} {Q1 : β → Hp → Prop} (hr : Rel κ ι vs M σ H)
    (o : OutS κ W ι H D (thenS (c vs M) vs k))
    (go : ∀ ι1 a M1 b H1, ι <+: ι1 → Keep H H1 → Rel κ ι1 vs M1 σ H1 → rel ι1 H1 a b → OutS κ W ι1 H1 D (k a M1) → Q1 b H1) : rd κ W rel c σ H Q1 := by
  refine ⟨ι, vs, M, hr, ?_⟩
  cases e : c vs M with
  | ok a M1 =>
    rw [e] at o
    exact fun ι' H' b h1 h2 h3 h4 => go ι' a M1 b H' h1 h2 h3 h4 (o.base h1 h2)
  | exc k fs M1 =>
    rw [e] at o
    exact fun ι' H' C d h1 h2 h3 h4 => o ι' H' σ C d h1 h2 h3 h4
  | bad => rw [e] at o; exact o
end
section
variable [Tb] {X : Cx} {W : WX} {e tg iter : Expr} {st : Stmt} {body rest : List Stmt} {pos p : Pos} {c ca cb : CE} {t : CT} {a b : CS} {g : CG} {gs : CGs} {x : Str}
abbrev EvS (X : Cx) (W : WX) (st : Stmt) (c : CS) : Prop := PS X st (rdS (kf X) W c)
abbrev EvB (X : Cx) (W : WX) (st : List Stmt) (c : CS) : Prop := PSs X st (rdS (kf X) W c)
abbrev EvG (X : Cx) (W : WX) (tg : Expr) (g : CG) : Prop := PG X tg (rdG (kf X) W g)
abbrev EvGs (X : Cx) (W : WX) (tg : List Expr) (g : CGs) : Prop := PGs X tg (rdGs (kf X) W g)
abbrev EvI (X : Cx) (W : WX) (tg iter : Expr) (c : CI) : Prop := PI X tg iter (rdI (kf X) W c)
theorem eb_nil : EvB X W [] skipC := PSs.imp pss_nil fun D σ H ⟨ι, vs, M, hr, o⟩ => OutS.fin hr o
theorem eb_one (h : EvS X W st a) : EvB X W [st] a := PSs.imp (pss_one h) fun D σ H q => q
theorem eb_cons (h : EvS X W st a) (h2 : EvB X W rest b) : EvB X W (st :: rest) (seqC a b) := PSs.imp (pss_cons h h2) fun D σ H ⟨ι, vs, M, hr, o⟩ => by
  refine ⟨ι, vs, M, hr, ?_⟩
  unfold seqC at o
  cases e : a vs M with
  | nx vs1 M1 =>
    rw [e] at o
    exact fun ι' H' σ' h1 h2 h3 => ⟨ι', vs1, M1, h3, o.base h1 h2⟩
  | bk vs1 M1 => rw [e] at o; exact o
  | ct vs1 M1 => rw [e] at o; exact o
  | rt v M1 => rw [e] at o; exact o
  | exc k fs vs1 M1 => rw [e] at o; exact o
  | bad => rw [e] at o; exact o
theorem es_pass : EvS X W (.Pass pos) skipC := PS.imp ps_pass fun D σ H ⟨ι, vs, M, hr, o⟩ => OutS.fin hr o
theorem es_cont : EvS X W (.Continue pos) contC := PS.imp ps_continue fun D σ H ⟨ι, vs, M, hr, o⟩ => o ι H σ (List.prefix_refl _) (Keep.refl _) hr
theorem es_break : EvS X W (.Break pos) breakC := PS.imp ps_break fun D σ H ⟨ι, vs, M, hr, o⟩ => o ι H σ (List.prefix_refl _) (Keep.refl _) hr
theorem es_expr (h : EvE X W e c) (hs : swapsWith e none pos.line X.env = pure false := by rfl) : EvS X W (.Expr e pos) (dropC c) := PS.imp (ps_expr h hs) fun D σ H ⟨ι, vs, M, hr, o⟩ =>
  OutS.run (k := fun _ M1 => .nx vs M1) hr o fun ι1 a M1 b H1 h1 h2 h3 h4 h5 => OutS.fin h3 h5
theorem es_ret (h : EvE X W e c) : EvS X W (.Return (some e) pos) (retC c) := PS.imp (ps_ret h) fun D σ H ⟨ι, vs, M, hr, o⟩ =>
  OutS.run (k := fun a M1 => .rt a M1) hr o fun ι1 a M1 b H1 h1 h2 h3 h4 h5 => h5 ι1 H1 b (List.prefix_refl _) (Keep.refl _) h3.rep h4
theorem es_retN : EvS X W (.Return none pos) retN := PS.imp ps_retN fun D σ H ⟨ι, vs, M, hr, o⟩ => o ι H .non (List.prefix_refl _) (Keep.refl _) hr.rep (by rw [vr_non])
theorem es_if {t1 : List Stmt} {t2 : List Stmt} (hc : EvT X W e t) (ha : EvB X W t1 a) (hb : EvB X W t2 b) : EvS X W (.If e t1 t2 pos) (ifS t a b) := PS.imp (ps_if hc ha hb) fun D σ H ⟨ι, vs, M, hr, o⟩ => by
  refine OutS.run (rel := relT) hr o fun ι1 k M1 k' H1 h1 h2 h3 h4 h5 => ?_
  subst h4
  cases k with
  | true => rw [if_pos rfl] at h5 ⊢; exact ⟨ι1, vs, M1, h3, h5⟩
  | false => rw [if_neg (by decide)] at h5 ⊢; exact ⟨ι1, vs, M1, h3, h5⟩
/-! targets -/
omit [Tb] in
theorem SLs.set {κ : Cfg} {ι : List Addr} {H : Hp} {vs : Loc} {σ : L2.St} {i : Nat} {sv : SV} {v : V} (h : SLs κ ι H vs σ) (r : SVR κ ι H sv v) : SLs κ ι H (vs.set i (some sv)) (σ.set i (some v)) := by
  refine ⟨by simp [h.len], fun j s' e => ?_⟩
  by_cases hj : j = i
  · subst hj
    have hl : j < vs.length := by
      have := (List.getElem?_eq_some_iff.mp e).1
      simpa using this
    rw [List.getElem?_set_self hl] at e
    cases e
    exact ⟨v, by rw [List.getElem?_set_self (by rw [← h.len]; exact hl)], r⟩
  · rw [List.getElem?_set_ne (Ne.symm hj)] at e
    obtain ⟨v', e', r'⟩ := h.at_ j s' e
    exact ⟨v', by rw [List.getElem?_set_ne (Ne.symm hj)]; exact e', r'⟩
omit [Tb] in
theorem Rel.slot {κ : Cfg} {ι : List Addr} {H : Hp} {vs : Loc} {M : AH} {σ : L2.St} {i : Nat} {a : AV} {v : V} (h : Rel κ ι vs M σ H) (r : VR κ ι H a v) : Rel κ ι (vs.set i (some (.val a))) M (σ.set i (some v)) H := ⟨h.sl.set r, h.rep⟩
theorem eg_name (i : Nat) (hN : X.N.Nodup) (hi : X.N[i]? = some x := by rfl) (hx : L2.Loc X.env.scope x := by first | exact .inl rfl | exact .inr rfl) (hf : X.fn x = true ∨ X.env.scope.names.lookup x = some .local := by first | exact .inl rfl | exact .inr rfl) : EvG X W (.Name x pos) (nameG i) :=
  ⟨fun pins s σ H v u Q I r ⟨ι, vs, M, a, hr, ha, o⟩ => (pg_name hN hi hx hf).run pins s σ H v u Q I r (OutS.fin (hr.slot ha) o)⟩
theorem egs_nil : EvGs X W [] nilG := ⟨fun pins s σ H xs us Q I r ⟨ι, vs, M, as, hr, ha, o⟩ => by
  unfold nilG at o
  split at o
  · obtain rfl := ha.nil_inv
    exact pgs_nil.run pins s σ H _ us Q I r ⟨rfl, OutS.fin hr o⟩
  · exact o.elim⟩
theorem consG_out {κ : Cfg} {ι : List Addr} {H : Hp} {Q : L2.St → Hp → Prop} {r : RS} {k : Loc → AH → RS} (o : OutS κ W ι H { nx := Q, rt := fun _ _ => False } (match r with
    | .nx vs1 M1 => k vs1 M1
    | .exc e fs vs1 M1 => .exc e fs vs1 M1
    | _ => .bad)) : OutS κ W ι H { nx := fun σ' H' => ∃ ι' vs M, ι <+: ι' ∧ Keep H H' ∧ Rel κ ι' vs M σ' H' ∧ OutS κ W ι' H' { nx := Q, rt := fun _ _ => False } (k vs M), rt := fun _ _ => False } r := by
  cases r with
  | nx vs1 M1 => exact fun ι' H' σ' h1 h2 h3 => ⟨ι', vs1, M1, h1, h2, h3, OutS.base o h1 h2⟩
  | exc e fs vs1 M1 => exact o
  | _ => exact o.elim
theorem egs_cons {es : List Expr} (h1 : EvG X W e g) (h2 : EvGs X W es gs) (hs : (assignEach (e :: es) X.env).map (·.2) = assign e X.env :: (assignEach es X.env).map (·.2) := by rfl) : EvGs X W (e :: es) (consG g gs) :=
  ⟨fun pins s σ H xs us Q I r ⟨ι, vs, M, as, hr, ha, o⟩ => by
    unfold consG at o
    split at o
    · rename_i a as
      obtain ⟨v, ws, rfl, g1, g2⟩ := ha.cons_inv
      refine (pgs_cons h1 h2 hs).run pins s σ H _ us Q I r ⟨v, ws, rfl, ι, vs, M, a, hr, g1, ?_⟩
      refine (consG_out o).imp (fun σ' H' ⟨ι', vs', M', k1, k2, k3, k4⟩ => ?_) (fun _ _ z => z) (fun _ _ z => z) (fun _ _ z => z)
      exact ⟨ι', vs', M', as, k3, g2.mono k1 k2, k4⟩
    · exact o.elim⟩
theorem eg_tup {es : List Expr} {k n : Nat} (hc : X.calm = true) (h : EvGs X W es gs) (hn : (assignEach es X.env).length = n := by rfl) (hst : (assignEach es X.env).findIdx? (·.1) = none := by rfl) : EvG X W (.Tuple es k pos) (tupG n gs) :=
  ⟨fun pins s σ H v u Q I r ⟨ι, vs, M, a, hr, ha, o⟩ => by
    unfold tupG at o
    split at o
    · rename_i xs
      split at o
      · rename_i hl
        rw [vr_tup] at ha
        obtain ⟨p, ws, rfl, hp, hw⟩ := ha
        exact (pg_tup hc h hn hst).run pins s σ H _ u Q I r ⟨p, ws, rfl, hp, by rw [← hw.length]; exact hl, ι, vs, M, xs, hr, hw, o⟩
      · exact o.elim
    · exact o.elim⟩
theorem eg_sub {o i : Expr} (hu : X.A.units + 64 < cLine) (ho : EvE X W o ca) (hi : EvE X W i cb)
    (ha : ∀ v, assign (.Subscript o i pos) X.env v = (do
      let ov ← holding [v] (eval o X.env)
      let iv ← holding [v, ov] (eval i X.env)
      standAt pos
      holding [v, ov, iv] (setItem ov iv v)
      release [v, ov, iv] []) := by intro _; rfl) : EvG X W (.Subscript o i pos) (subG ca cb) :=
  ⟨fun pins s σ H v u Q I r ⟨ι, vs, M, a, hr, hv, oo⟩ => by
    refine (pg_sub ho hi (st_all (W := W) hu) ha).run pins s σ H v u Q I r ?_
    have o' : Out (kf X) W (fun _ _ (_ : Unit) (_ : Unit) => True) ι vs σ H (fun _ H' => Q σ H') ((ca vs M).bind fun o M1 => (cb vs M1).bind fun i M2 => setA o i a M2) := by
      unfold subG at oo
      cases e : (ca vs M).bind fun o M1 => (cb vs M1).bind fun i M2 => setA o i a M2 with
      | ok z M1 => rw [e] at oo; exact fun ι' H' b k1 k2 k3 _ => oo ι' H' σ k1 k2 k3
      | exc k fs M1 => rw [e] at oo; exact fun ι' H' C d k1 k2 k3 k4 => oo ι' H' σ C d k1 k2 k3 k4
      | bad => rw [e] at oo; exact oo
    refine Out.run hr o' fun ι1 ov M1 v1 H1 h1 h2 h3 h4 h5 => Out.run h3 h5 fun ι2 iv M2 v2 H2 g1 g2 g3 g4 g5 => ?_
    exact ⟨ι2, vs, M2, σ, ov, iv, a, g3, h4.mono g1 g2, g4, (hv.mono h1 h2).mono g1 g2, g5⟩⟩
/-! assignments -/
theorem onlyG_out {κ : Cfg} {ι : List Addr} {H : Hp} {D : Ends} {r : RS} (o : OutS κ W ι H D (onlyG r)) : OutS κ W ι H { nx := D.nx, rt := fun _ _ => False } r := by
  cases r with
  | nx vs1 M1 => exact o
  | exc e fs vs1 M1 => exact o
  | _ => exact o.elim
theorem es_asg (he : EvE X W e c) (hg : EvG X W tg g) (hs : swapsWithSole [tg] e pos.line X.env = pure false := by rfl) (hw : swappedStores [tg] e X.env = pure none := by rfl)
    (h1 : (assignEach [tg] X.env).map (·.2) = [assign tg X.env] := by rfl) : EvS X W (.Assign [tg] e pos) (asgC c g) := PS.imp (ps_asg he hg hs hw h1) fun D σ H ⟨ι, vs, M, hr, o⟩ =>
  OutS.run hr o fun ι1 a M1 b H1 h1 h2 h3 h4 h5 => ⟨ι1, vs, M1, a, h3, h4, onlyG_out h5⟩
theorem es_set {p' : Pos} (i : Nat) (hN : X.N.Nodup) (he : EvE X W e c) (hi : X.N[i]? = some x := by rfl) (hx : L2.Loc X.env.scope x := by first | exact .inl rfl | exact .inr rfl) (hs : swapsWith e (some (.Name x p')) pos.line X.env = pure false := by rfl)
    (hf : X.fn x = true ∨ X.env.scope.names.lookup x = some .local := by first | exact .inl rfl | exact .inr rfl) : EvS X W (.Assign [.Name x p'] e pos) (asgC c (nameG i)) := PS.imp (ps_set hN hi hx he hs hf) fun D σ H ⟨ι, vs, M, hr, o⟩ =>
  OutS.run hr o fun ι1 a M1 b H1 h1 h2 h3 h4 h5 => OutS.fin (h3.slot h4) h5
theorem es_par {y : Str} {px py pt : Pos} {kt k2 : Nat} {pt2 : Pos} {ea eb : Expr} {r : CA} (i j : Nat) (hc : X.calm = true) (hN : X.N.Nodup) (ha : EvA X W [ea, eb] r) (hi : X.N[i]? = some x := by rfl) (hj : X.N[j]? = some y := by rfl) (hij : i ≠ j := by decide)
    (hx : X.env.scope.names.lookup x = some .local := by rfl) (hy : X.env.scope.names.lookup y = some .local := by rfl)
    (hw : swappedStores [.Tuple [.Name x px, .Name y py] kt pt] (.Tuple [ea, eb] k2 pt2) X.env = pure (some [x, y]) := by rfl)
    (hs : swapsWithSole [.Tuple [.Name x px, .Name y py] kt pt] (.Tuple [ea, eb] k2 pt2) pos.line X.env = pure false := by rfl) : EvS X W (.Assign [.Tuple [.Name x px, .Name y py] kt pt] (.Tuple [ea, eb] k2 pt2) pos) (parC i j r) :=
  PS.imp (ps_par hc hN hi hj hij hx hy ha hw hs) fun D σ H ⟨ι, vs, M, hr, o⟩ => OutS.run hr o fun ι1 as M1 ws H1 h1 h2 h3 h4 h5 => by
    split at h5
    · obtain ⟨v, ws', rfl, g1, g2⟩ := h4.cons_inv
      obtain ⟨w, ws2, rfl, g3, g4⟩ := g2.cons_inv
      obtain rfl := g4.nil_inv
      exact ⟨v, w, rfl, OutS.fin ((h3.slot g1).slot g3) h5⟩
    · exact h5.elim
/-! loops -/
theorem IT.stay {it : IT} : True := trivial
theorem es_for (hp : PassesOwn (model X.prog X.w) X.A X.env X.xe) (hc : X.calm = true) {ci : CI} (hi : EvI X W tg iter ci) (hg : EvG X W tg g) (hb : EvB X W body b) (hs : ∀ x, foldedSetIterable iter X.env x = pure x := by intro _; rfl) :
    EvS X W (.For tg iter body [] pos) (forC ci g b) := PS.imp (ps_for hp hc hi hg hb hs) fun D σ H ⟨ι, vs, M, hr, o⟩ => OutS.run hr o fun ι1 it M1 J H1 h1 h2 h3 h4 h5 => by
    refine ⟨fun i m σ' H' => m = it.items.length - i ∧ i ≤ it.items.length ∧ ∃ ι' vs' M', ι1 <+: ι' ∧ Keep H1 H' ∧ Rel (kf X) ι' vs' M' σ' H' ∧ OutS (kf X) W ι' H' D (loopC it g b (it.items.drop i) vs' M'), ⟨_, rfl, Nat.zero_le _, ι1, vs, M1, List.prefix_refl _, Keep.refl _, h3, by simpa using h5⟩, ?_⟩
    rintro i m σ' H' ⟨rfl, hi', ι', vs', M', k1, k2, k3, k4⟩
    by_cases hlt : i < it.items.length
    · have ed : it.items.drop i = it.items[i] :: it.items.drop (i + 1) := List.drop_eq_getElem_cons hlt
      rw [ed, loopC] at k4
      split at k4
      · rename_i hok
        obtain ⟨f1, f2⟩ := h4 i ι' M' H' k1 k2 k3.rep hok
        obtain ⟨f3, f4⟩ := f1 _ (List.getElem?_eq_getElem hlt)
        refine .inr ⟨f3, fun σ2 H2 => ∃ ι2 vs2 M2, ι1 <+: ι2 ∧ Keep H1 H2 ∧ Rel (kf X) ι2 vs2 M2 σ2 H2 ∧ OutS (kf X) W ι2 H2 D (loopC it g b (it.items.drop (i + 1)) vs2 M2), fun σ2 H2 ⟨ι2, vs2, M2, q1, q2, q3, q4⟩ => ⟨it.items.length - (i + 1), by omega, rfl, hlt, ι2, vs2, M2, q1, q2, q3, q4⟩, fun v H2 hy => ?_⟩
        obtain ⟨p1, p2, p3⟩ := f4 v H2 hy
        refine ⟨ι', vs', M', _, k3.keep p1 p2, p3, ?_⟩
        have k4 := k4.base (List.prefix_refl _) p1
        unfold turnC at k4
        cases eg : g it.items[i] vs' M' with
        | nx vs1 M1' =>
          rw [eg] at k4
          intro ι3 H3 σ3 w1 w2 w3
          refine ⟨ι3, vs1, M1', w3, ?_⟩
          have k4 := k4.base w1 w2
          dsimp only at k4
          have tr : ∀ {ι4 H4}, ι3 <+: ι4 → Keep H3 H4 → ι1 <+: ι4 ∧ Keep H1 H4 := fun a b => ⟨(k1.trans w1).trans a, ((k2.trans p1).trans w2).trans b⟩
          cases eb : b vs1 M1' with
          | nx vs2 M2 =>
            rw [eb] at k4
            exact fun ι4 H4 σ4 z1 z2 z3 => ⟨ι4, vs2, M2, (tr z1 z2).1, (tr z1 z2).2, z3, k4.base z1 z2⟩
          | ct vs2 M2 =>
            rw [eb] at k4
            exact fun ι4 H4 σ4 z1 z2 z3 => ⟨ι4, vs2, M2, (tr z1 z2).1, (tr z1 z2).2, z3, k4.base z1 z2⟩
          | bk vs2 M2 => rw [eb] at k4; exact k4
          | rt v' M2 => rw [eb] at k4; exact k4
          | exc e fs vs2 M2 => rw [eb] at k4; exact k4
          | bad => rw [eb] at k4; exact k4
        | exc e fs vs1 M1' => rw [eg] at k4; exact k4
        | bk vs1 M1' => rw [eg] at k4; exact k4.elim
        | ct vs1 M1' => rw [eg] at k4; exact k4.elim
        | rt v' M1' => rw [eg] at k4; exact k4.elim
        | bad => rw [eg] at k4; exact k4.elim
      · exact k4.elim
    · have e : i = it.items.length := by omega
      subst e
      rw [List.drop_length, loopC] at k4
      split at k4
      · rename_i hok
        obtain ⟨f1, f2⟩ := h4 _ ι' M' H' k1 k2 k3.rep hok
        exact .inl ⟨f2 rfl, OutS.fin k3 k4⟩
      · exact k4.elim
theorem es_while (hp : PassesOwn (model X.prog X.w) X.A X.env X.xe) (hc : EvT X W e t) (hb : EvB X W body b) : EvS X W (.While e body [] pos) (whileC t b) := PS.imp (ps_while hp hc hb) fun D σ H ⟨ι, vs, M, hr, o⟩ => by
  refine ⟨fun m σ' H' => ∃ ι' vs' M', Rel (kf X) ι' vs' M' σ' H' ∧ OutS (kf X) W ι' H' D (whileN t b m vs' M'), ⟨wfuel, ι, vs, M, hr, o⟩, ?_⟩
  rintro m σ' H' ⟨ι', vs', M', k1, k2⟩
  cases m with
  | zero => exact k2.elim
  | succ n =>
    rw [whileN] at k2
    refine OutS.run (rel := relT) k1 k2 fun ι1 k M1 k' H1 h1 h2 h3 h4 h5 => ?_
    subst h4
    cases k with
    | true =>
      rw [if_pos rfl] at h5 ⊢
      refine ⟨fun σ2 H2 => ∃ ι2 vs2 M2, Rel (kf X) ι2 vs2 M2 σ2 H2 ∧ OutS (kf X) W ι2 H2 D (whileN t b n vs2 M2), fun σ2 H2 ⟨ι2, vs2, M2, q1, q2⟩ => ⟨n, Nat.lt_succ_self _, ι2, vs2, M2, q1, q2⟩, ι1, vs', M1, h3, ?_⟩
      cases eb : b vs' M1 with
      | nx vs2 M2 => rw [eb] at h5; exact fun ι4 H4 σ4 z1 z2 z3 => ⟨ι4, vs2, M2, z3, h5.base z1 z2⟩
      | ct vs2 M2 => rw [eb] at h5; exact fun ι4 H4 σ4 z1 z2 z3 => ⟨ι4, vs2, M2, z3, h5.base z1 z2⟩
      | bk vs2 M2 => rw [eb] at h5; exact h5
      | rt v' M2 => rw [eb] at h5; exact h5
      | exc e fs vs2 M2 => rw [eb] at h5; exact h5
      | bad => rw [eb] at h5; exact h5
    | false => rw [if_neg (by decide)] at h5 ⊢; exact OutS.fin h3 h5
end
end AM
end

section
set_option Elab.async false
set_option linter.all false
set_option autoImplicit false
set_option maxRecDepth 100000
set_option maxHeartbeats 4000000
/-! AM 7: what loops walk. -/
namespace PySem
open Sem (wp)
open AutoSeq1 (wpAny_loadPart')
/-- enumerate of a tuple -/
theorem meets_enumerate_newT (l : Addr) (items : Array Value) (n : Nat) (dct : Option Addr) (sl : Array (Option Value)) :
    Meets (Builtin.«enumerate.__new__» ⟨[.type "enumerate", .ref l], []⟩) (fun _ R s => s.heap.get? l = some { cls := .type "tuple", dict := dct, data := .seq items n, slots := sl } ∧
      R (.ok (.ret (.ref (s.heap.push { cls := .type "tuple_iterator", data := .fields #[.ref l, .int 0 0] }).objs.size)))
        { s with heap := (s.heap.push { cls := .type "tuple_iterator", data := .fields #[.ref l, .int 0 0] }).push { cls := .type "enumerate", data := .fields #[.none, .bool false, .ref s.heap.objs.size, rawInt 0, .none, .none] } }) :=
  .of_wp fun prog w A R s h => by
    obtain ⟨hp, g, d, tk, os⟩ := s; obtain ⟨hl, h⟩ := h
    have hsub := sub_enumerate
    have hL : Heap.IsTuple (Shared.heap ⟨hp, g, d, tk, os⟩) l items := ⟨_, hl, rfl, n, rfl⟩
    wp_walk using wpAny_loadPart' hl
    refine wpAny_stack_any fun st => wpAny_pure ?_
    split
    · rename_i c _ _ _ _ _
      cases (c == Value.type "enumerate")
      · wp_walk using wpAny_loadPart' hl, wpAny_pyIter_tuple hL
        exact ⟨_, rfl, h⟩
      · wp_walk using wpAny_loadPart' hl, wpAny_pyIter_tuple hL
        exact ⟨_, rfl, h⟩
    · wp_walk using wpAny_loadPart' hl, wpAny_pyIter_tuple hL
      exact ⟨_, rfl, h⟩
section
variable {prog : Program} {w : World} {A : Around} {E : Value → Shared → Prop} {s : Shared}
theorem call_enumerate_tuple {l : Addr} {items : Array Value} {Q : Value → Shared → Prop} (hL : s.heap.IsTuple l items)
    (h : ∀ h', IsEnum h' (s.heap.objs.size + 1) s.heap.objs.size 0 .none → h'.IsTupleIter s.heap.objs.size l 0 → h'.objs.size = s.heap.objs.size + 2 →
      (∀ b o, s.heap.get? b = some o → h'.get? b = some o) → Q (.ref (s.heap.objs.size + 1)) { s with heap := h' }) :
    wpAny (model prog w) A (call (.type "enumerate") [.ref l]) Q E s := by
  obtain ⟨⟨c, dct, dt, sl⟩, hl, hc, n, hd⟩ := hL
  replace hc : c = .type "tuple" := hc
  replace hd : dt = .seq items n := hd
  subst hc hd
  refine callType_new F.called_enumerate (by decide) (F.typeCall_enumerate_1 _) (F.newCall_enumerate_1 _) (fun obj => F.args_object_init_2 obj _) F.entry_enumerate_new
    (meets_enumerate_newT l items n dct sl) ⟨hl, ?_⟩
  have hz : (s.heap.push { cls := .type "tuple_iterator", data := .fields #[.ref l, .int 0 0] }).objs.size = s.heap.objs.size + 1 := Heap.size_push ..
  show _ ∧ _
  rw [hz]
  have he : IsEnum ((s.heap.push { cls := .type "tuple_iterator", data := .fields #[.ref l, .int 0 0] }).push
      { cls := .type "enumerate", data := .fields #[.none, .bool false, .ref s.heap.objs.size, rawInt 0, .none, .none] }) (s.heap.objs.size + 1) s.heap.objs.size 0 .none := by
    have := Heap.get?_push_size (s.heap.push { cls := .type "tuple_iterator", data := .fields #[.ref l, .int 0 0] })
      (o := { cls := .type "enumerate", data := .fields #[.none, .bool false, .ref s.heap.objs.size, rawInt 0, .none, .none] }) rfl
    rw [hz] at this; exact this
  refine ⟨⟨_, he, rfl⟩, h _ he ⟨_, Heap.get?_push_of_some _ (Heap.get?_push_size _ rfl), rfl, rfl⟩ (by rw [Heap.size_push, hz]) fun b o x => Heap.get?_push_of_some _ (Heap.get?_push_of_some _ x)⟩
end
end PySem
namespace AM
open PySem PySem.Spec L2

/-! ### what they compute -/
/-- a list's or a tuple's items, with what has to stay -/
def walkA (a : AV) (M : AH) : Option IT := match a with
  | .tup xs => some ⟨xs, []⟩
  | .ref i => match M[i]? with
    | some (.lst xs) => some ⟨xs, [(i, xs)]⟩
    | some (.frz xs) => some ⟨xs, [(i, xs)]⟩
    | _ => none
  | _ => none
def iterA (a : AV) (M : AH) : R IT := match walkA a M with
  | some it => .ok it M
  | none => .bad
def valI (c : CE) : CI := fun vs M => (c vs M).bind iterA
def rangeV (lo : Int) (n : Nat) : List AV := (List.range n).map fun i => AV.int (lo + (i : Nat))
def rangeA1 (as : List AV) (M : AH) : R IT := match as with
  | [.int j] => if -(2 ^ 62) ≤ j ∧ j < 2 ^ 62 then .ok ⟨rangeV 0 j.toNat, []⟩ M else .bad
  | _ => .bad
def rangeA2 (as : List AV) (M : AH) : R IT := match as with
  | [.int i, .int j] => if -(2 ^ 62) ≤ i ∧ i < 2 ^ 62 ∧ -(2 ^ 62) ≤ j ∧ j < 2 ^ 62 then .ok ⟨rangeV i (j - i).toNat, []⟩ M else .bad
  | _ => .bad
def enumFrom (n : Nat) : List AV → List AV
  | [] => []
  | x :: xs => .tup [.int (n : Nat), x] :: enumFrom (n + 1) xs
def enumA (as : List AV) (M : AH) : R IT := match as with
  | [a] => match walkA a M with
    | some it => .ok ⟨enumFrom 0 it.items, it.guard⟩ M
    | none => .bad
  | _ => .bad
def isT : AV → Bool
  | .tup _ => true
  | _ => false
def zipA (as : List AV) (M : AH) : R IT := match as with
  | [a, b] => if isT a = isT b then match walkA a M, walkA b M with
      | some i, some j => .ok ⟨List.zipWith (fun x y => AV.tup [x, y]) i.items j.items, i.guard ++ j.guard⟩ M
      | _, _ => .bad
    else .bad
  | _ => .bad
def argsI (op : List AV → AH → R IT) (r : CA) : CI := fun vs M => (r vs M).bind op

/-! ### they are what is walked -/
section
variable {κ : Cfg} {ι : List Addr} {M : AH} {H : Hp}
theorem isLst_sq {i : Nat} {xs : List AV} {p : Addr} (hr : Rep κ ι M H) (ei : ι[i]? = some p) (h : isLst M (i, xs) = true) : ∃ ws, SqL κ.K H p ws ∧ VRs κ ι H xs ws := by
  unfold isLst at h
  split at h
  · rename_i ys q
    have e : ys = xs := of_decide_eq_true h
    subst e
    obtain ⟨ws, h1, h2⟩ := hr.at_ q ei
    exact ⟨ws, SqL.of h1, h2⟩
  · rename_i ys q
    have e : ys = xs := of_decide_eq_true h
    subst e
    obtain ⟨ob, ws, h1, h2⟩ := hr.at_ q ei
    exact ⟨ws, .inl (.inr ⟨ob, h1⟩), h2⟩
  · cases h
end
/-- what stands at an address while a loop walks it: either kind -/
def Sq (K : PySem.W.Frag) (t : Bool) (H : Hp) (a : Addr) (xs : List V) : Prop := if t = true then SqT K H a xs else SqL K H a xs
section
variable [Tb] {X : Cx} {W : WX} {pins : List (Addr × Obj)} {σ0 : L2.St} {s : Shared} {κ : Cfg} {ι ι' : List Addr} {M M' : AH} {H H' : Hp}
/-- a walk's source: its object and the items, as long as the guard holds -/
theorem walk_src {a : AV} {v : V} {it : IT} (hr : Rep κ ι M H) (e : walkA a M = some it) (h : VR κ ι H a v) :
    ∃ p ws, v = .ref p ∧ Sq κ.K (isT a) H p ws ∧ VRs κ ι H it.items ws ∧
      ∀ {ι' M' H'}, ι <+: ι' → Keep H H' → Rep κ ι' M' H' → it.ok M' = true → ∃ ws', Sq κ.K (isT a) H' p ws' ∧ VRs κ ι' H' it.items ws' := by
  unfold walkA at e
  split at e
  · rename_i xs
    cases e
    rw [vr_tup] at h
    obtain ⟨p, ws, rfl, hp, hw⟩ := h
    exact ⟨p, ws, rfl, hp, hw, fun h1 h2 h3 h4 => ⟨ws, h2.sqT hp, hw.mono h1 h2⟩⟩
  · rename_i i
    rw [vr_ref] at h
    obtain ⟨p, ei, rfl⟩ := h
    have go : ∀ xs, isLst M (i, xs) = true → it = ⟨xs, [(i, xs)]⟩ → ∃ p' ws, V.ref p = .ref p' ∧ Sq κ.K (isT (.ref i)) H p' ws ∧ VRs κ ι H it.items ws ∧
      ∀ {ι' M' H'}, ι <+: ι' → Keep H H' → Rep κ ι' M' H' → it.ok M' = true → ∃ ws', Sq κ.K (isT (.ref i)) H' p' ws' ∧ VRs κ ι' H' it.items ws' := by
      intro xs hx e
      subst e
      obtain ⟨ws, h1, h2⟩ := isLst_sq hr ei hx
      refine ⟨p, ws, rfl, h1, h2, fun k1 k2 k3 k4 => ?_⟩
      rename_i ιx Mx Hx
      have k5 : isLst Mx (i, xs) = true := by
        unfold IT.ok at k4
        simpa using k4
      exact isLst_sq k3 (pre_get k1 ei) k5
    split at e
    · rename_i xs q
      exact go xs (by unfold isLst; rw [q]; simp) (Option.some.inj e).symm
    · rename_i xs q
      exact go xs (by unfold isLst; rw [q]; simp) (Option.some.inj e).symm
    · cases e
  · cases e
theorem Sq.inj (I : Inv X pins σ0 H s) {t : Bool} {a : Addr} {xs ys : List V} (h : Sq X.K t H a xs) (h' : Sq X.K t H a ys) : xs = ys := by
  cases t with
  | true => exact I.tuple_inj h h'
  | false => exact I.list_inj h h'
/-- the items of a list or tuple as the walk finds them -/
def Itq (K : PySem.W.Frag) (t : Bool) (a : Addr) : It := if t = true then Itt K a else Itl K a
theorem itq_rel {t : Bool} {p : Addr} {it : IT} (f : ∀ {ι' M' H'}, ι <+: ι' → Keep H H' → Rep κ ι' M' H' → it.ok M' = true → ∃ ws', Sq κ.K t H' p ws' ∧ VRs κ ι' H' it.items ws') : ItR κ (Itq κ.K t p) ι H it := by
  intro i ι' M' H' h1 h2 h3 h4
  obtain ⟨ws, k1, k2⟩ := f h1 h2 h3 h4
  have hl := k2.length
  refine ⟨fun x hx => ?_, fun hi => ?_⟩
  · obtain ⟨v, hv, rv⟩ := k2.get hx
    cases t with
    | true =>
      refine ⟨⟨ws, v, k1, hv⟩, fun v' H2 hy => ?_⟩
      obtain ⟨e, y⟩ := hy
      subst e
      have e2 : v' = v := Option.some.inj ((y ws k1).symm.trans hv)
      subst e2
      exact ⟨Keep.refl _, fun _ _ _ => rfl, rv⟩
    | false =>
      refine ⟨⟨ws, v, k1, hv⟩, fun v' H2 hy => ?_⟩
      obtain ⟨e, y⟩ := hy
      subst e
      have e2 : v' = v := Option.some.inj ((y ws k1).symm.trans hv)
      subst e2
      exact ⟨Keep.refl _, fun _ _ _ => rfl, rv⟩
  · cases t with
    | true => exact ⟨ws, k1, by omega⟩
    | false => exact ⟨ws, k1, by omega⟩
/-- a list's or a tuple's iterator comes -/
theorem it_begins {tg : Expr} {t : Bool} {p : Addr} {ws : List V} {R : It → Hp → Prop} (I : Inv X pins σ0 H s) (h : Sq X.K t H p ws) (q : R (Itq X.K t p) H) : wpAny (model X.prog X.w) X.A (pyIter (.ref p)) (PIE X pins σ0 tg R) X.xe s := by
  cases t with
  | true =>
    obtain ⟨its, rv, pl, hz⟩ := I.tuple h
    refine wpAny_pyIter_tuple (show s.heap.IsTuple p its.toArray from pl) ?_
    refine ⟨s.heap.objs.size, [s.heap.objs.size], _, _, H, rfl, I.kept (t' := s.toks) fun b o e => Heap.get?_push_of_some _ e, turn_tuple p _, ⟨_, Heap.get?_push_size _ rfl, rfl, rfl⟩, fun b hb => ?_, q⟩
    have e : b = s.heap.objs.size := by simpa using hb
    subst e
    exact I.fpOk (Nat.le_refl _) (I.hok.fresh (Nat.le_refl _))
  | false =>
    obtain ⟨its, rv, pl, hz⟩ := I.list h
    refine wpAny_pyIter_list pl.isList ?_
    refine ⟨s.heap.objs.size, [s.heap.objs.size], _, _, H, rfl, I.kept (t' := s.toks) fun b o e => Heap.get?_push_of_some _ e, turn_list p _, ⟨_, Heap.get?_push_size _ rfl, rfl, rfl⟩, fun b hb => ?_, q⟩
    have e : b = s.heap.objs.size := by simpa using hb
    subst e
    exact I.fpOk (Nat.le_refl _) (I.hok.fresh (Nat.le_refl _))
section
variable {tg e e2 : Expr} {es : List Expr} {c : CE} {r : CA} {p pos tpos : Pos} {elts : List Expr} {kk : Nat}
theorem PI.imp {t t' : TI} (h : PI X tg e t) (k : ∀ σ H Q, t' σ H Q → t σ H Q) : PI X tg e t' := ⟨fun pins s σ H Q I q => h.run pins s σ H Q I (k σ H Q q)⟩
theorem ei_val (he : EvE X W e c) : EvI X W tg e (valI c) := by
  refine ⟨fun pins s σ H R I ⟨ι, vs, M, hr, o⟩ => ?_⟩
  refine thn (he.run pins s σ H _ I (Out.run (Q1 := fun v H1 => ∃ p ws t, v = .ref p ∧ Sq X.K t H1 p ws ∧ R (Itq X.K t p) H1) hr o fun ι1 a M1 v H1 h1 h2 h3 h4 h5 => ?_)) fun v s1 ⟨x, H1, I1, r1, p, ws, t, e, hq, q⟩ => ?_
  · unfold iterA at h5
    split at h5
    · rename_i it ew
      obtain ⟨p, ws, rfl, k1, k2, k3⟩ := walk_src h3.rep ew h4
      exact ⟨p, ws, _, rfl, k1, Out.fin h3 h5 (itq_rel k3)⟩
    · exact h5.elim
  · subst e
    cases r1
    exact it_begins I1 hq q
theorem rg_rel {lo : Int} {n : Nat} : ItR κ (Itr lo n) ι H ⟨rangeV lo n, []⟩ := by
  intro i ι' M' H' h1 h2 h3 h4
  refine ⟨fun x hx => ?_, fun hi => ?_⟩
  · have hx : (rangeV lo n)[i]? = some x := hx
    unfold rangeV at hx
    rw [List.getElem?_map] at hx
    obtain ⟨j, e1, e2⟩ := Option.map_eq_some_iff.mp hx
    have hj : j = i ∧ i < n := by
      obtain ⟨h9, e9⟩ := List.getElem?_eq_some_iff.mp e1
      have h10 : i < n := by simpa using h9
      rw [List.getElem_range] at e9
      exact ⟨e9.symm, h10⟩
    obtain ⟨rfl, hlt⟩ := hj
    subst e2
    refine ⟨hlt, fun v H2 hy => ?_⟩
    obtain ⟨e, ev⟩ := hy
    subst e; subst ev
    exact ⟨Keep.refl _, fun _ _ _ => rfl, by rw [vr_int]⟩
  · show n ≤ i
    have hi : i = (rangeV lo n).length := hi
    simp [rangeV] at hi
    omega
theorem ei_range1 (hg : Gl X "range") (hm : X.mg "range" = none) (ha : EvA X W [e] r) (hs : starEach [e] X.env = [(false, eval e X.env)] := by rfl) : EvI X W tg (.Call (.Name "range" p) [e] [] pos) (argsI rangeA1 r) :=
  PI.imp (pi_range1 hg hm ha hs) fun σ H Q ⟨ι, vs, M, hr, o⟩ => by
    refine Out.run hr o fun ι1 as M1 ws H1 h1 h2 h3 h4 h5 => ?_
    unfold rangeA1 at h5
    split at h5
    · split at h5
      · rename_i hb
        obtain ⟨v, ws', rfl, g1, g2⟩ := h4.cons_inv
        obtain rfl := g2.nil_inv
        rw [vr_int] at g1; subst g1
        exact ⟨_, rfl, hb.1, hb.2, Out.fin h3 h5 rg_rel⟩
      · exact h5.elim
    · exact h5.elim
theorem ei_range2 (hg : Gl X "range") (hm : X.mg "range" = none) (ha : EvA X W [e, e2] r) (hs : starEach [e, e2] X.env = [(false, eval e X.env), (false, eval e2 X.env)] := by rfl) (hs2 : starEach [e2] X.env = [(false, eval e2 X.env)] := by rfl) : EvI X W tg (.Call (.Name "range" p) [e, e2] [] pos) (argsI rangeA2 r) :=
  PI.imp (pi_range2 hg hm ha hs hs2) fun σ H Q ⟨ι, vs, M, hr, o⟩ => by
    refine Out.run hr o fun ι1 as M1 ws H1 h1 h2 h3 h4 h5 => ?_
    unfold rangeA2 at h5
    split at h5
    · split at h5
      · rename_i hb
        obtain ⟨v, ws', rfl, g1, g2⟩ := h4.cons_inv
        obtain ⟨v2, ws2, rfl, g3, g4⟩ := g2.cons_inv
        obtain rfl := g4.nil_inv
        rw [vr_int] at g1 g3; subst g1; subst g3
        exact ⟨_, _, rfl, hb, Out.fin h3 h5 rg_rel⟩
      · exact h5.elim
    · exact h5.elim
/-! enumerate -/
def IteT (K : PySem.W.Frag) (a : Addr) : It :=
  ⟨fun i H => ∃ (xs : List V) (x : V), SqT K H a xs ∧ xs[i]? = some x, fun i H v H' => ∃ T x, v = .ref T ∧ H T = none ∧ H' = upd H T (.tup [.int (i : Nat), x]) ∧ ∀ xs, SqT K H a xs → xs[i]? = some x, fun i H => ∃ xs : List V, SqT K H a xs ∧ i = xs.length⟩
theorem turn_enumT {P : Program} {w : World} {K : PySem.W.Frag} {elts : List Expr} {kk : Nat} {tpos : Pos} (a e it : Addr) :
    Turn P w K (.Tuple elts kk tpos) (IteT K a) [e, it] e (fun i h => (∃ old, IsEnum h e it ((i : Nat) : Int) old) ∧ h.IsTupleIter it a i ∧ e ≠ it ∧ a ≠ it ∧ a ≠ e) where
  mem := by simp
  obj := fun i h st b hb => by
    obtain ⟨⟨old, he⟩, ⟨o, ho, hc, hd⟩, _⟩ := st
    have e' : b = e ∨ b = it := by simpa using hb
    rcases e' with z | z
    · rw [z]; exact ⟨_, he, fun v q => nomatch q⟩
    · rw [z]; exact ⟨o, ho, fun v q => by rw [hd] at q; cases q⟩
  keep := fun i h h' st k => let ⟨⟨old, he⟩, hi, hne⟩ := st; ⟨⟨old, k e (by simp) _ he⟩, hi.at fun o q => k it (by simp) o q, hne⟩
  item := by
    intro X hP hw hK hc i pins s σ H E I hf st hg
    subst hP hw hK
    obtain ⟨⟨old, he⟩, hit, hne, hai, hae⟩ := st
    obtain ⟨xs, x, hq, hx⟩ := hg
    obtain ⟨its, rv, p, hz⟩ := I.tuple hq
    obtain ⟨u, hu, ru⟩ := rv.get hx
    have hel : e < s.heap.objs.size := Heap.lt_size he
    have hil : it < s.heap.objs.size := by obtain ⟨_, q, _⟩ := hit; exact Heap.lt_size q
    have hlen : i < its.toArray.size := by
      have := (List.getElem?_eq_some_iff.mp hu).1
      simpa using this
    refine wpAny_pyNext_enum_itemD (Draws.tuple (prog := X.prog) (w := X.w) (A := X.A.in1) (I.ok.hd hc) it a hai its.toArray) he ⟨hit, p⟩ hlen hne (by simp [hne, Ne.symm hae]) fun u' h' tk hP ho hst hT hsz hk => ?_
    have eu : u' = u := by
      have h1 : its.toArray[i]? = some u' := hP
      have h2 : its.toArray[i]? = some u := by simpa using hu
      exact Option.some.inj (h1.symm.trans h2)
    subst eu
    refine ⟨_, rfl, wpAny_letOwnedTupleGo_enum (s := { s with heap := h', toks := tk + 1 }) ho fun h'' he' sb => ?_⟩
    have hT2 : h''.get? s.heap.objs.size = some { cls := .type "tuple", data := .seq #[.int i tk, u'] } := (sb.2 _ (Nat.ne_of_gt hel)).trans hT
    have new : ObjOk X.prog X.w (upd H s.heap.objs.size (.tup [.int (i : Nat), x])) h'' s.heap.objs.size (.tup [.int (i : Nat), x]) :=
      ⟨by show 2 ≤ sizeLine; decide, [.int i tk, u'], .cons ⟨_, rfl⟩ (.cons ru .nil), ⟨_, hT2, rfl, _, rfl⟩⟩
    have I1 : Inv X pins σ (upd H s.heap.objs.size (.tup [.int (i : Nat), x])) { s with heap := h'', toks := tk + 1 } :=
      I.turnedNew (ch := [e, it]) (fun b ob hb q => (sb.2 b (fun z => hb (by simp [z]))).trans (hk b ob (fun z => hb (by simp [z])) (fun z => hb (by simp [z])) q)) hf (Nat.le_refl _) new
    refine ⟨.ref s.heap.objs.size, _, I1, rfl, ⟨_, x, rfl, I.hok.fresh (Nat.le_refl _), rfl, fun ys hy => by rw [I.tuple_inj hy hq]; exact hx⟩, ⟨⟨u', ?_⟩, hst.1.at fun o q => (sb.2 it (Ne.symm hne)).trans q, hne, hai, hae⟩, fun b hb => ?_⟩
    · have e1 : ((i + 1 : Nat) : Int) = (i : Int) + 1 := by omega
      rw [e1]; exact he'
    · have hb' : b < s.heap.objs.size := by
        have e' : b = e ∨ b = it := by simpa using hb
        rcases e' with z | z
        · rw [z]; exact hel
        · rw [z]; exact hil
      rw [upd_ne (Nat.ne_of_lt hb')]
      exact (hf b hb).1
  done := by
    intro X hP hw hK hc i pins s σ H E I hf st hg
    subst hP hw hK
    obtain ⟨⟨old, he⟩, hit, hne, hai, hae⟩ := st
    obtain ⟨xs, hq, hx⟩ := hg
    obtain ⟨its, rv, p, hz⟩ := I.tuple hq
    obtain ⟨f0, f1, f2, f3, f4, f5⟩ := hf it (by simp)
    have hl := rv.length
    have e0 : i = its.toArray.size := by rw [hx, hl]; simp
    subst e0
    exact wpAny_pyNext_enum_endD (Draws.tuple (prog := X.prog) (w := X.w) (A := X.A.in1) (I.ok.hd hc) it a hai its.toArray) he ⟨hit, p⟩ fun h' eb => ⟨rfl, I.turned (t' := s.toks) (fun b o hb q => eb b o hb q) f0 f1 f3 f4 f5⟩
  self := fun A i s Q E st h => let ⟨⟨_, he⟩, _⟩ := st; wpAny_pyIter_enum he h

def IteQ (K : PySem.W.Frag) (t : Bool) (a : Addr) : It := if t = true then IteT K a else Ite K a
theorem enumFrom_get : ∀ {xs : List AV} {n i : Nat} {x : AV}, (enumFrom n xs)[i]? = some x → ∃ y, xs[i]? = some y ∧ x = .tup [.int ((n + i : Nat) : Int), y]
  | [], n, i, x, h => by simp [enumFrom] at h
  | a :: xs, n, 0, x, h => by simp [enumFrom] at h; exact ⟨a, rfl, by rw [← h]; rfl⟩
  | a :: xs, n, i + 1, x, h => by
    obtain ⟨y, h1, h2⟩ := enumFrom_get (xs := xs) (n := n + 1) (i := i) (by simpa [enumFrom] using h)
    exact ⟨y, by simpa using h1, by rw [h2]; congr 4; omega⟩
theorem enumFrom_len : ∀ (xs : List AV) (n : Nat), (enumFrom n xs).length = xs.length
  | [], _ => rfl
  | _ :: xs, n => by simp [enumFrom, enumFrom_len xs]
/-- a new pair is no object of ours -/
theorem new_pair {T : Addr} {a b : AV} {va vb : V} {H : Hp} (hr : Rep κ ι M H) (hT : H T = none) (ha : VR κ ι H a va) (hb : VR κ ι H b vb) :
    Keep H (upd H T (.tup [va, vb])) ∧ (∀ c u, H c = some u → upd H T (.tup [va, vb]) c = H c) ∧ VR κ ι (upd H T (.tup [va, vb])) (.tup [a, b]) (.ref T) := by
  have k := Keep.new (o := .tup [va, vb]) hT
  refine ⟨k, fun c u hu => upd_ne (ne_of_none hu hT), ?_⟩
  rw [vr_tup]
  exact ⟨T, _, rfl, SqT.of upd_same, .cons (ha.mono (List.prefix_refl _) k) (.cons (hb.mono (List.prefix_refl _) k) .nil)⟩
theorem ite_rel {t : Bool} {p : Addr} {it : IT} (f : ∀ {ι' M' H'}, ι <+: ι' → Keep H H' → Rep κ ι' M' H' → it.ok M' = true → ∃ ws', Sq κ.K t H' p ws' ∧ VRs κ ι' H' it.items ws') : ItR κ (IteQ κ.K t p) ι H ⟨enumFrom 0 it.items, it.guard⟩ := by
  intro i ι' M' H' h1 h2 h3 h4
  obtain ⟨ws, k1, k2⟩ := f h1 h2 h3 h4
  have hl := k2.length
  refine ⟨fun x hx => ?_, fun hi => ?_⟩
  · obtain ⟨y, hy, ex⟩ := enumFrom_get hx
    subst ex
    obtain ⟨v, hv, rv⟩ := k2.get hy
    have go : ∀ v' H2, (∃ T z, v' = V.ref T ∧ H' T = none ∧ H2 = upd H' T (.tup [.int (i : Nat), z]) ∧ ws[i]? = some z) → Keep H' H2 ∧ (∀ c u, H' c = some u → H2 c = H' c) ∧ VR κ ι' H2 (.tup [.int ((0 + i : Nat) : Int), y]) v' := by
      rintro v' H2 ⟨T, z, rfl, hT, rfl, hz⟩
      have e2 : z = v := Option.some.inj (hz.symm.trans hv)
      subst e2
      rw [Nat.zero_add]
      exact new_pair h3 hT (by rw [vr_int]) rv
    cases t with
    | true => exact ⟨⟨ws, v, k1, hv⟩, fun v' H2 ⟨T, z, a1, a2, a3, a4⟩ => go v' H2 ⟨T, z, a1, a2, a3, a4 ws k1⟩⟩
    | false => exact ⟨⟨ws, v, k1, hv⟩, fun v' H2 ⟨T, z, a1, a2, a3, a4⟩ => go v' H2 ⟨T, z, a1, a2, a3, a4 ws k1⟩⟩
  · have hi : i = (enumFrom 0 it.items).length := hi
    rw [enumFrom_len] at hi
    cases t with
    | true => exact ⟨ws, k1, by omega⟩
    | false => exact ⟨ws, k1, by omega⟩
theorem ei_enum (hg : Gl X "enumerate") (hm : X.mg "enumerate" = none) (ha : EvA X W [e] r) (hs : starEach [e] X.env = [(false, eval e X.env)] := by rfl) : EvI X W (.Tuple elts kk tpos) (.Call (.Name "enumerate" p) [e] [] pos) (argsI enumA r) := by
  refine ⟨fun pins s σ H R I ⟨ι, vs, M, hr, o⟩ => ?_⟩
  refine PyProof.Rows.Call_ (ld_blt I hg hm PyProof.Rows.boot_enumerate (PyProof.Rows.callWith_type1 (thn (ha.run pos pins s σ H _ I (Out.run (Q1 := fun vs H1 => ∃ p ws t, vs = [.ref p] ∧ Sq X.K t H1 p ws ∧ R (IteQ X.K t p) H1) hr o fun ι1 as M1 ws H1 h1 h2 h3 h4 h5 => ?_)) fun us s1 ⟨vs, H1, I1, r1, p, ws, t, ex, hq, q⟩ => ?_) hs rfl))
  · unfold enumA at h5
    split at h5
    · rename_i a
      obtain ⟨v, ws', rfl, g1, g2⟩ := h4.cons_inv
      obtain rfl := g2.nil_inv
      split at h5
      · rename_i it ew
        obtain ⟨p, ws, rfl, k1, k2, k3⟩ := walk_src h3.rep ew g1
        exact ⟨p, ws, _, rfl, k1, Out.fin h3 h5 (ite_rel k3)⟩
      · exact h5.elim
    · exact h5.elim
  · subst ex
    cases r1 with
    | cons r rr =>
      cases rr
      cases r
      have fp : ∀ b ∈ [s1.heap.objs.size + 1, s1.heap.objs.size], FpOk X pins H1 b := fun b hb => by
        have e' : b = s1.heap.objs.size + 1 ∨ b = s1.heap.objs.size := by simpa using hb
        have hle : s1.heap.objs.size ≤ b := by
          rcases e' with z | z
          · rw [z]; exact Nat.le_add_right _ _
          · rw [z]; exact Nat.le_refl _
        exact I1.fpOk hle (I1.hok.fresh hle)
      cases t with
      | true =>
        obtain ⟨its, rv, p', hz⟩ := I1.tuple hq
        have hpl : p < s1.heap.objs.size := p'.lt
        refine call_enumerate_tuple (show s1.heap.IsTuple p its.toArray from p') fun h' he hit hsz hk => wpAny_pyIter_enum he ?_
        exact ⟨s1.heap.objs.size + 1, [s1.heap.objs.size + 1, s1.heap.objs.size], _, _, H1, rfl, I1.kept (t' := s1.toks) hk, turn_enumT p (s1.heap.objs.size + 1) s1.heap.objs.size, ⟨⟨.none, he⟩, hit, Nat.succ_ne_self _, Nat.ne_of_lt hpl, Nat.ne_of_lt (Nat.lt_succ_of_lt hpl)⟩, fp, q⟩
      | false =>
        obtain ⟨its, rv, p', hz⟩ := I1.list hq
        refine call_enumerate_list p'.isList fun h' he hit hsz hk => wpAny_pyIter_enum he ?_
        exact ⟨s1.heap.objs.size + 1, [s1.heap.objs.size + 1, s1.heap.objs.size], _, _, H1, rfl, I1.kept (t' := s1.toks) hk, turn_enum p (s1.heap.objs.size + 1) s1.heap.objs.size, ⟨⟨.none, he⟩, hit, Nat.succ_ne_self _⟩, fp, q⟩
/-! zip -/
def ItzQ (K : PySem.W.Frag) (t : Bool) (a b : Addr) : It := if t = true then RZ.ItzT K a b else Itz K a b
theorem itz_rel {t : Bool} {p q : Addr} {i1 i2 : IT} (f : ∀ {ι' M' H'}, ι <+: ι' → Keep H H' → Rep κ ι' M' H' → i1.ok M' = true → ∃ ws', Sq κ.K t H' p ws' ∧ VRs κ ι' H' i1.items ws')
    (g : ∀ {ι' M' H'}, ι <+: ι' → Keep H H' → Rep κ ι' M' H' → i2.ok M' = true → ∃ ws', Sq κ.K t H' q ws' ∧ VRs κ ι' H' i2.items ws') :
    ItR κ (ItzQ κ.K t p q) ι H ⟨List.zipWith (fun x y => AV.tup [x, y]) i1.items i2.items, i1.guard ++ i2.guard⟩ := by
  intro i ι' M' H' h1 h2 h3 h4
  have h4 : (i1.guard ++ i2.guard).all (isLst M') = true := h4
  rw [List.all_append, Bool.and_eq_true] at h4
  obtain ⟨ws, k1, k2⟩ := f h1 h2 h3 h4.1
  obtain ⟨zs, l1, l2⟩ := g h1 h2 h3 h4.2
  have hl := k2.length
  have hl2 := l2.length
  refine ⟨fun x hx => ?_, fun hi => ?_⟩
  · have hx : (List.zipWith (fun x y => AV.tup [x, y]) i1.items i2.items)[i]? = some x := hx
    rw [List.getElem?_zipWith] at hx
    split at hx
    · rename_i a b ea eb
      cases hx
      obtain ⟨v, hv, rv⟩ := k2.get ea
      obtain ⟨w, hw, rw'⟩ := l2.get eb
      have go : ∀ v' H2, (∃ T y z, v' = V.ref T ∧ H' T = none ∧ H2 = upd H' T (.tup [y, z]) ∧ ws[i]? = some y ∧ zs[i]? = some z) → Keep H' H2 ∧ (∀ c u, H' c = some u → H2 c = H' c) ∧ VR κ ι' H2 (.tup [a, b]) v' := by
        rintro v' H2 ⟨T, y, z, rfl, hT, rfl, hy, hz⟩
        have e1 : y = v := Option.some.inj (hy.symm.trans hv)
        have e2 : z = w := Option.some.inj (hz.symm.trans hw)
        subst e1; subst e2
        exact new_pair h3 hT rv rw'
      cases t with
      | true => exact ⟨⟨ws, zs, v, w, k1, l1, hv, hw⟩, fun v' H2 ⟨T, y, z, a1, a2, a3, a4, a5⟩ => go v' H2 ⟨T, y, z, a1, a2, a3, a4 ws k1, a5 zs l1⟩⟩
      | false => exact ⟨⟨ws, zs, v, w, k1, l1, hv, hw⟩, fun v' H2 ⟨T, y, z, a1, a2, a3, a4, a5⟩ => go v' H2 ⟨T, y, z, a1, a2, a3, a4 ws k1, a5 zs l1⟩⟩
    · cases hx
  · have hi : i = (List.zipWith (fun x y => AV.tup [x, y]) i1.items i2.items).length := hi
    rw [List.length_zipWith] at hi
    cases t with
    | true => exact ⟨ws, zs, k1, l1, by omega⟩
    | false => exact ⟨ws, zs, k1, l1, by omega⟩
theorem ei_zip (hg : Gl X "zip") (hm : X.mg "zip" = none) (ha : EvA X W [e, e2] r)
    (hs : starEach [e, e2] X.env = (false, eval e X.env) :: starEach [e2] X.env := by rfl) (hpl : (backTo pos (starEach [e2] X.env)).any (·.1) = false := by rfl) : EvI X W (.Tuple elts kk tpos) (.Call (.Name "zip" p) [e, e2] [] pos) (argsI zipA r) :=
  PI.imp (RZ.pi_zipA hg hm ha hs hpl) fun σ H Q ⟨ι, vs, M, hr, o⟩ => by
    refine Out.run hr o fun ι1 as M1 ws H1 h1 h2 h3 h4 h5 => ?_
    unfold zipA at h5
    split at h5
    · rename_i a b
      obtain ⟨v, ws', rfl, g1, g2⟩ := h4.cons_inv
      obtain ⟨v2, ws2, rfl, g3, g4⟩ := g2.cons_inv
      obtain rfl := g4.nil_inv
      split at h5
      · rename_i et
        split at h5
        · rename_i i j e1 e2
          obtain ⟨p, us, rfl, k1, k2, k3⟩ := walk_src h3.rep e1 g1
          obtain ⟨q, zs, rfl, l1, l2, l3⟩ := walk_src h3.rep e2 g3
          rw [← et] at l1 l3
          refine ⟨p, q, us, zs, rfl, ?_⟩
          have fin := fun t (et : isT a = t) => Out.fin (rel := relI (kf X)) (b := ItzQ X.K t p q) h3 h5 (by subst et; exact itz_rel k3 l3)
          cases et2 : isT a with
          | true =>
            rw [et2] at k1 l1
            exact .inr ⟨k1, l1, fin true et2⟩
          | false =>
            rw [et2] at k1 l1
            exact .inl ⟨k1, l1, fin false et2⟩
        · exact h5.elim
      · exact h5.elim
    · exact h5.elim
end
end
end AM
end

section
set_option Elab.async false
set_option linter.all false
set_option autoImplicit false
set_option maxRecDepth 100000
set_option maxHeartbeats 4000000
/-! AM 8: functions and their calls. -/
namespace AM
open PySem PySem.Spec L2

/-! ### a function's run -/
def startL (n : Nat) (as : List SV) : Loc := as.map some ++ List.replicate (n - as.length) none
def fnEnd (r : RS) : R AV := match r with
  | .rt a M => .ok a M
  | .nx _ M => .ok .non M
  | .exc c fs _ M => .exc c fs M
  | _ => .bad
def fnRun (n : Nat) (body : CS) (as : List SV) (M : AH) : R AV := fnEnd (body (startL n as) M)
/-- a promise -/
def spF (κ : Cfg) (n : Nat) (F : List SV → AH → R AV) : Sp := fun vs H Q E => vs.length = n ∧ ∃ ι M as, Rep κ ι M H ∧ Paired (SVR κ ι H) as vs ∧ OutF κ ι H Q E (F as M)
abbrev WR (E : XK) : WX := fun cls d _ H => E cls d H
/-- what a body's rules ask -/
structure Be (X : Cx) (W : WX) (k : Nat) : Prop where
  calm : X.calm = true
  nd : X.N.Nodup
  tk : Takes X W
  room : Room k X.A
  gd : X.A.guards = some []
structure Bd (X : Cx) (W : WX) (k : Nat) : Prop extends Be X W k where
  own : PassesOwn (model X.prog X.w) X.A X.env X.xe
  cb : X.Ok → ∀ x c, X.env.cells.lookup x = some c → X.base.get? c = none ∧ c ∉ frs X.stack
theorem cellsFrom_ge : ∀ {names : List (Str × NameKind)} {n : Nat} {acc : List (Str × Addr)} {x : Str} {c : Addr}, (x, c) ∈ cellsFrom n names acc → (x, c) ∈ acc ∨ n ≤ c
  | [], _, _, _, _, h => .inl h
  | (m, k) :: r, n, acc, x, c, h => by
    unfold cellsFrom at h
    split at h
    · rcases cellsFrom_ge h with h | h
      · rcases List.mem_cons.mp h with e | h
        · cases e; exact .inr (Nat.le_refl _)
        · exact .inl h
      · exact .inr (Nat.le_of_succ_le h)
    · exact cellsFrom_ge h
theorem cb_fn {CX : CXT} {P : Program} {w : World} {K : PySem.W.Frag} {mg : Str → Option Value} {base : Heap} {N : List Str} {qual : Str} {scope : Scope} {f : Addr} {cdv : Value} {A : Around} {outer : List Env} {s : Shared} {H : Hp} {E : XK}
    (ok : (cxOf CX P w K mg base N qual scope f cdv A outer s H E).Ok) (x : Str) (c : Addr) (e : (cxOf CX P w K mg base N qual scope f cdv A outer s H E).env.cells.lookup x = some c) :
    base.get? c = none ∧ c ∉ frs (cxOf CX P w K mg base N qual scope f cdv A outer s H E).stack := by
  have hg : s.heap.objs.size + 1 ≤ c := by
    rcases cellsFrom_ge (show (x, c) ∈ cellsFrom (s.heap.objs.size + 1) scope.names [] from PySem.mem_of_lookup e) with h | h
    · cases h
    · exact h
  refine ⟨Heap.get?_none_of_le (Nat.le_trans ok.bsz (Nat.le_of_succ_le hg)), fun hm => ?_⟩
  rcases List.mem_cons.mp (show c ∈ s.heap.objs.size :: frs outer from hm) with h | h
  · rw [h] at hg; exact absurd hg (Nat.not_succ_le_self _)
  · obtain ⟨_, o, ho, _⟩ := ok.funs.mem h
    exact absurd (Nat.lt_of_lt_of_le (Heap.lt_size ho) (Nat.le_of_succ_le hg)) (Nat.lt_irrefl _)
/-- a def that is known -/
structure Kn (κ : Cfg) (k : Nat) (x : Str) (n : Nat) (F : List SV → AH → R AV) : Prop where
  ex : ∃ (f : Addr) (fd : FuncData) (ps : List Str), κ.mg x = some (.ref f) ∧ PySem.W.keepIn κ.K (.ref f) = true ∧ FnG κ k f fd ps (spF κ n F) ∧ Binds κ.K fd ps []
theorem Kn.mono {κ : Cfg} {j k n : Nat} {x : Str} {F : List SV → AH → R AV} (h : Kn κ j x n F) (hk : j ≤ k) : Kn κ k x n F := by
  obtain ⟨f, fd, ps, h1, h2, h3, h4⟩ := h.ex
  exact ⟨f, fd, ps, h1, h2, h3.mono hk, h4⟩
section
variable {κ : Cfg} {ι : List Addr} {H : Hp} {vs : Loc} {M : AH} {σ : L2.St} {as : List SV} {ws : List V}
theorem SLs.start {N : List Str} (h : Paired (SVR κ ι H) as ws) : SLs κ ι H (startL N.length as) (L2.start N ws) := by
  have hl := Paired.length h
  refine ⟨?_, fun i sv e => ?_⟩
  · unfold startL L2.start
    simp [hl]
  · unfold startL at e
    unfold L2.start
    have hi : i < as.length := by
      by_cases hi : i < as.length
      · exact hi
      · rw [List.getElem?_append_right (by simpa using hi), List.getElem?_replicate] at e
        split at e <;> cases e
    rw [List.getElem?_append_left (by simpa using hi), List.getElem?_map] at e
    rw [List.getElem?_append_left (by simpa [← hl] using hi), List.getElem?_map]
    clear hi hl
    induction h generalizing i with
    | nil => simp at e
    | cons r t ih =>
      cases i with
      | zero => simp at e; subst e; exact ⟨_, rfl, r⟩
      | succ i => simpa using ih i (by simpa using e)
theorem OutF.ofOut {W : WX} {E : XK} {Q : VK} {r : R AV} (hs : SLs κ ι H vs σ) (hW : ∀ cls d H', E cls d H' ↔ W cls d σ H') (o : Out κ W (VR κ) ι vs σ H Q r) : OutF κ ι H Q E r := by
  cases r with
  | ok a M' => exact fun ι' H' v h1 h2 h3 h4 => o ι' H' v h1 h2 ⟨hs.mono h1 h2, h3⟩ h4
  | exc c fs M' => exact fun ι' H' C d h1 h2 h3 h4 => (hW _ _ _).mpr (o ι' H' C d h1 h2 ⟨hs.mono h1 h2, h3⟩ h4)
  | bad => exact o
theorem OutS.ofF {E : XK} {Q : VK} {r : RS} (o : OutF κ ι H Q E (fnEnd r)) : OutS κ (WR E) ι H { nx := fun _ H' => Q .non H', rt := Q } r := by
  cases r with
  | nx vs M => exact fun ι' H' σ' h1 h2 h3 => o ι' H' .non h1 h2 h3.rep (by rw [vr_non])
  | rt a M => exact fun ι' H' v h1 h2 h3 h4 => o ι' H' v h1 h2 h3 h4
  | bk vs M => exact o.elim
  | ct vs M => exact o.elim
  | exc c fs vs M => exact fun ι' H' σ' C d h1 h2 h3 h4 => o ι' H' C d h1 h2 h3.rep h4
  | bad => exact o.elim
end
section
variable [Tb] {P : Program} {w : World} {K : PySem.W.Frag} {mg : Str → Option Value} {base : Heap} {x qual : Str} {params : Arguments} {body : List Stmt} {scope : Scope} {f : Addr} {fd : FuncData} {k n : Nat}
/-- THE RULE for a def -/
theorem fn_ok {N ps : List Str} {c : CS} (F : FunD K x qual params body scope [] [] f fd) (S : FnScope N ps scope) (hn : ps.length = n) {m : Nat} (hN : N.length = m)
    (hb : ∀ (cdv : Value) (A : Around) (outer : List Env) (s : Shared) (H : Hp) (E : XK), cdv = fd.code → Bd (cxOf (L2.CX P w) P w K mg base N qual scope f cdv A outer s H E) (WR E) k →
      EvB (cxOf (L2.CX P w) P w K mg base N qual scope f cdv A outer s H E) (WR E) body c) : FnG ⟨K, mg, P, w, base, Tb.T⟩ (k + 1) f fd ps (spF ⟨K, mg, P, w, base, Tb.T⟩ n (fnRun m c)) := by
  subst hN
  obtain ⟨oc, od, dV, kV, doc, pm, an, cdv, ct, osl, rfl, lk, hcd, _, _⟩ := F.ex
  refine ⟨fun vs H Q E h => h.1.trans hn.symm, fun A outer s H args us vs Q E hr gd e0 hbd r hsp => ?_⟩
  refine LamX.run_ofS lk hcd S hr e0 hbd r (hsp.1.trans hn.symm) fun hr' => ?_
  refine ⟨_, hb cdv A outer s H E rfl ⟨⟨rfl, S.nd, takes_of rfl rfl rfl rfl, hr', gd⟩, passes_of rfl, cb_fn⟩, ?_⟩
  obtain ⟨hl, ι, M, as, rep, hp, o⟩ := hsp
  exact ⟨ι, startL N.length as, M, ⟨SLs.start hp, rep⟩, OutS.ofF o⟩
end

/-! ### calls -/
def callC (n : Nat) (F : List SV → AH → R AV) (r : CA) : CE := fun vs M => (r vs M).bind fun as M1 => if as.length = n then F (as.map .val) M1 else .bad
theorem paired_val {κ : Cfg} {ι : List Addr} {H : Hp} : ∀ {as : List AV} {ws : List V}, VRs κ ι H as ws → Paired (SVR κ ι H) (as.map .val) ws
  | [], ws, h => by rw [h.nil_inv]; exact .nil
  | a :: as, ws, h => by
    obtain ⟨v, us, rfl, r, t⟩ := h.cons_inv
    exact .cons r (paired_val t)
section
variable [Tb] {X : Cx} {W : WX} {e : Expr} {es : List Expr} {pos p : Pos} {r : CA} {x : Str} {k n : Nat} {F : List SV → AH → R AV}
theorem run_fnG {f : Addr} {fd : FuncData} {ps : List Str} {sp : Sp} {pins : List (Addr × Obj)} {σ : L2.St} {H : Hp} {s : Shared} {Q : VK} {us : List Value} {vs : List V} (B : Be X W k) (F : FnG (kf X) k f fd ps sp) (hb : Binds X.K fd ps [])
    (I : Inv X pins σ H s) (r : Vals vs us) (h : sp vs H Q (WE W σ)) : wpAny (model X.prog X.w) X.A (call (.ref f) us) (EP X pins σ Q) X.xe s := by
  have hl : us.length = ps.length := by rw [← r.length]; exact F.len _ _ _ _ h
  have b := hb s us I.kIn (by rw [List.append_nil]; exact hl)
  rw [List.append_nil] at b
  refine wpAny_call (codeAny_mono (F.run X.A X.stack s H ⟨us, []⟩ us vs Q (WE W σ) B.room B.gd I.env0 b r h) fun r s' hq => ?_)
  cases r with
  | error e => exact passAt B.tk σ pins H s e s' I hq
  | ok fl =>
    cases fl with
    | ret u => exact I.after hq
    | next => exact False.elim hq
    | brk => exact False.elim hq
    | cont => exact False.elim hq
theorem call_goal {ι : List Addr} {vs : Loc} {M : AH} {σ : L2.St} {H : Hp} {Q : VK} {as : List AV} {ws : List V} (hr : Rel (kf X) ι vs M σ H) (ha : VRs (kf X) ι H as ws)
    (o : Out (kf X) W (VR (kf X)) ι vs σ H Q (if as.length = n then F (as.map .val) M else .bad)) : spF (kf X) n F ws H Q (WE W σ) := by
  split at o
  · rename_i hl
    exact ⟨by rw [← ha.length]; exact hl, ι, M, _, hr.rep, paired_val ha, OutF.ofOut hr.sl (fun _ _ _ => Iff.rfl) o⟩
  · exact o.elim
theorem ev_call (B : Be X W k) (hk : Kn (kf X) k x n F) (hg : Gl X x) (ha : EvA X W (e :: es) r) (hdb : (x == ("__debug__" : Str)) = false := by decide +kernel)
    (he : starEach (e :: es) X.env = (false, eval e X.env) :: starEach es X.env := by rfl) (hpl : (backTo pos (starEach es X.env)).any (·.1) = false := by rfl) : EvE X W (.Call (.Name x p) (e :: es) [] pos) (callC n F r) := by
  obtain ⟨f, fd, ps, h1, h2, h3, h4⟩ := hk.ex
  refine ⟨fun pins s σ H Q I ⟨ι, vs, M, hr, o⟩ => ?_⟩
  have hq : rdA (kf X) W r σ H fun ws H1 => spF (kf X) n F ws H1 Q (WE W σ) := Out.run hr o fun ι1 as M1 ws H1 g1 g2 g3 g4 g5 => call_goal g3 g4 g5
  refine wpAny_Call_Name_kw (ld_glob I hg h1 ?_ hdb)
  refine PySem.W.callWith_K (h₀ := X.base) I.ok.mod.kin h2 (thn (ha.run pos pins s σ H _ I hq) fun us s1 ⟨ws, H1, I1, r1, q⟩ => ⟨I1.kIn, ?_⟩) he hpl
  exact run_fnG B h3 h4 I1 r1 q
theorem ev_call0 (B : Be X W k) (hk : Kn (kf X) k x n F) (hg : Gl X x) (hdb : (x == ("__debug__" : Str)) = false := by decide +kernel) : EvE X W (.Call (.Name x p) [] [] pos) (callC n F nilA) := by
  obtain ⟨f, fd, ps, h1, h2, h3, h4⟩ := hk.ex
  refine ⟨fun pins s σ H Q I ⟨ι, vs, M, hr, o⟩ => ?_⟩
  refine wpAny_Call_Name_kw (ld_glob I hg h1 ?_ hdb)
  exact PySem.W.callWith_K0 I.kIn h2 (run_fnG (us := []) B h3 h4 I .nil (call_goal (as := []) hr .nil o))
end
end AM
end

section
set_option Elab.async false
set_option linter.all false
set_option autoImplicit false
set_option maxRecDepth 100000
set_option maxHeartbeats 4000000
/-! AM 9: lambdas handed to a def. -/
namespace AM
open PySem PySem.Spec L2

/-! ### a lambda is made -/
theorem OR.ntbl {κ : Cfg} {ι : List Addr} {H : Hp} {o : AO} {a : Addr} (h : OR κ ι H o a) : ∃ u, H a = some u ∧ (∀ ps, u ≠ .tbl ps) ∧ ∀ ob x, u ≠ .frz ob (.own x) := by
  cases o with
  | lst xs => obtain ⟨vs, h1, h2⟩ := h; exact ⟨_, h1, (fun _ z => by cases z), (fun _ _ z => by cases z)⟩
  | frz xs => obtain ⟨o, vs, h1, h2⟩ := h; exact ⟨_, h1, (fun _ z => by cases z), (fun _ _ z => by cases z)⟩
  | ins c fs => obtain ⟨C, dx, gs, h0, h1, h2, h3⟩ := h; exact ⟨_, h1, (fun _ z => by cases z), (fun _ _ z => by cases z)⟩
  | dct kvs =>
    rcases h with ⟨gs, h1, h2⟩ | ⟨ks, h1, h2, hne⟩
    · exact ⟨_, h1, (fun _ z => by cases z), (fun _ _ z => by cases z)⟩
    · exact ⟨_, h1, (fun _ z => by unfold NdO at z; cases z), (fun _ _ z => by unfold NdO at z; cases z)⟩
theorem Rep.keepT {κ : Cfg} {ι : List Addr} {M : AH} {H H' : Hp} (r : Rep κ ι M H) (k : Keep H H') (same : ∀ a u, H a = some u → (∀ ps, u ≠ .tbl ps) → H' a = some u) (tab : ∀ p ∈ κ.T, TabF H' p.1 p.2) : Rep κ ι M H' :=
  ⟨r.len, r.nd, fun i o a e ea => by
    have h := r.obj i o a e ea
    obtain ⟨u, h1, h2, _⟩ := h.ntbl
    exact h.mono (List.prefix_refl _) k (by rw [h1]; exact same a u h1 h2), tab⟩
section
variable {X : Cx} {pins : List (Addr × Obj)} {σ : L2.St} {H : Hp} {s : Shared}
/-- a thing that was known by a fact is known by its object -/
theorem inv_refrz {a : Addr} {φ : Heap → Prop} {o : Obj} (I : Inv X pins σ H s) (ha : H a = some (.ext φ)) (ho : s.heap.get? a = some o) : Inv X pins σ (upd H a (.frz o (.ext φ))) s := by
  have sm : ∀ b u, H b = some u → u ≠ .ext φ → upd H a (.frz o (.ext φ)) b = some u := fun b u e n => by
    rw [upd_ne (fun z => n (Option.some.inj (by rw [← e, z]; exact ha)))]; exact e
  have st := I.step (g' := s.gens) (d' := s.drawn) (t' := s.toks) (h' := s.heap) (H' := upd H a (.frz o (.ext φ))) (ch := []) (fun _ z => nomatch z) (fun b o _ _ _ e _ => e) (fun b o _ _ _ e _ => ⟨o.slots, e⟩) (fun b o _ _ n => by rw [upd_ne (ne_of_none ha n).symm]; exact n) (fun b o _ e => ⟨o, e⟩)
    (fun b xs e => sm b _ e fun z => by cases z) (fun b o u e => sm b _ e fun z => by cases z) (fun b ps e => ⟨#[], by rw [sm b _ e fun z => by cases z]; simp⟩) (fun _ hm => hm) (fun b u e => ?_) I.bare
  · exact st
  · by_cases hb : b = a
    · subst hb
      rw [upd_same] at e
      cases e
      refine ⟨ho, ?_⟩
      exact (I.hok b _ ha).stay (fun _ _ _ q => q) (fun c q => sm c _ q fun z => by cases z) (fun c xs q => sm c _ q fun z => by cases z)
    · rw [upd_ne hb] at e
      exact (I.hok b _ e).stay (fun _ _ _ q => q) (fun c q => sm c _ q fun z => by cases z) (fun c xs q => sm c _ q fun z => by cases z)
end
abbrev lamObj (X : Cx) (params : Arguments) (body : Expr) (scope : Scope) (pm : Value) (c' : Addr) (ctv : Value) : Obj :=
  PySem.W.kla_obj "<lambda>" (X.env.qual ++ "<lambda>") params body scope (cloFrom X.env.cells scope.names []) pm c' ctv
section
variable [Tb] {X : Cx} {pins : List (Addr × Obj)} {σ : L2.St} {H : Hp} {s : Shared} {ι : List Addr} {M : AH}
/-- what the making of a lambda asks -/
def LmOk [Tb] (X : Cx) : Prop := ∃ c P, X.env.code = .ref c ∧ LamX.TabB X.base X.mg c P ∧ (P, X.env.qual ++ "<lambda>") ∈ Tb.T ∧ ∀ p ∈ Tb.T, p.1 = P → p.2 = X.env.qual ++ "<lambda>"
/-- f is a lambda of this text, made here -/
def LamAt (X : Cx) (H : Hp) (params : Arguments) (body : Expr) (scope : Scope) (f : Addr) : Prop :=
  ∃ (pm ctv : Value) (c' : Addr) (oc : Obj), H f = some (.frz (lamObj X params body scope pm c' ctv) (.ext fun _ => True)) ∧ H c' = some (.frz oc (LamX.CodeO c' (X.env.qual ++ "<lambda>")))
theorem lam_make3 {params : Arguments} {body : Expr} {scope : Scope} {pos : Pos} {E : Value → Shared → Prop} {Q : Value → Shared → Prop} (I : Inv X pins σ H s) (rep : Rep (kf X) ι M H) (L : LmOk X)
    (hdef : defaultsOf params X.env = ([], [])) (hfree : ∀ y ∈ scope.names, y.2 = .free → ∃ c, X.env.cells.lookup y.1 = some c)
    (h : ∀ (f : Addr) (H1 : Hp) (s' : Shared), Inv X pins σ H1 s' → Keep H H1 → Rep (kf X) ι M H1 → LamAt X H1 params body scope f → Q (.ref f) s') :
    wpAny (model X.prog X.w) X.A (eval (.Lambda params body scope pos) X.env) Q E s := by
  obtain ⟨c, P, hcode, TB, hm, hu⟩ := L
  obtain ⟨ps, hP, ht, ha⟩ := rep.tab _ hm
  refine PySem.W.kla_eval hdef ?_
  have bP : s.heap.BuiltinsAt X.mg P := TB.bm.keeps I.bk
  have hP' : s.heap.get? P = some { cls := .none, data := .fields ps } := I.hok P _ hP
  have fo : ∀ {H' : Hp} {h' : Heap} {a : Addr} {o : Obj}, h'.get? a = some o → ObjOk X.prog X.w H' h' a (.frz o (.ext fun _ => True)) := fun {H' h' a o} e => ⟨e, True.intro, ⟨o, e⟩, fun _ _ _ _ => True.intro⟩
  cases hc : codeAmong pos ps.toList with
  | none =>
    refine PySem.W.kla_makeFunction (mg := X.mg) (c := c) (P := P) (ps := ps) (closure_ok hfree) I.ok.glob (I.mod.glob.keeps I.bk) hcode (TB.code.keeps I.bk) hP' ht hc TB.gP bP fun c' ctv h' tk hx hge hlt hrec htb => ?_
    obtain ⟨c2, oc, vs, t, e2, hoc, hd, hv⟩ := hrec
    cases e2
    have nC : H c' = none := I.hok.fresh hge
    have I1 := LamX.inv_table (t' := tk) (more := #[rawInt pos.line, rawInt pos.col, .ref c']) (h' := h') I hP (fun b o hb e => hx b o hb e) htb hge ⟨oc, vs, t, hoc, hd, hv⟩
    have I2 := inv_refrz I1 upd_same hoc
    rw [upd_upd] at I2
    have hfN : upd (upd H P (.tbl (ps ++ #[rawInt pos.line, rawInt pos.col, .ref c']))) c' (.frz oc (LamX.CodeO c' (X.env.qual ++ "<lambda>"))) h'.objs.size = none := I2.hok.fresh (Nat.le_refl _)
    have I3 := I2.laid (t' := tk) (h' := h'.push (lamObj X params body scope ((X.mg "__name__").getD .none) c' ctv)) (a := h'.objs.size) (o := .frz (lamObj X params body scope ((X.mg "__name__").getD .none) c' ctv) (.ext fun _ => True))
      (fun b u e => Heap.get?_push_of_some _ e) (Nat.le_refl _) (fo (Heap.get?_push_size _ rfl))
    have n1 : c' ≠ h'.objs.size := Nat.ne_of_lt hlt
    have hPc : P ≠ c' := ne_of_none hP nC
    have hsz : s.heap.objs.size ≤ h'.objs.size := Nat.le_trans hge (Nat.le_of_lt hlt)
    have n2 : P ≠ h'.objs.size := Nat.ne_of_lt (Nat.lt_of_lt_of_le (Heap.lt_size hP') hsz)
    have nF : H h'.objs.size = none := I.hok.fresh hsz
    have same : ∀ a u, H a = some u → (∀ ps, u ≠ .tbl ps) → upd (upd (upd H P (.tbl (ps ++ #[rawInt pos.line, rawInt pos.col, .ref c']))) c' (.frz oc (LamX.CodeO c' (X.env.qual ++ "<lambda>")))) h'.objs.size (.frz (lamObj X params body scope ((X.mg "__name__").getD .none) c' ctv) (.ext fun _ => True)) a = some u := fun a u e n => by
      rw [upd_ne (ne_of_none e nF), upd_ne (ne_of_none e nC), upd_ne (fun z => n ps (Option.some.inj (e.symm.trans (by rw [z]; exact hP))))]; exact e
    have atF : upd (upd (upd H P (.tbl (ps ++ #[rawInt pos.line, rawInt pos.col, .ref c']))) c' (.frz oc (LamX.CodeO c' (X.env.qual ++ "<lambda>")))) h'.objs.size (.frz (lamObj X params body scope ((X.mg "__name__").getD .none) c' ctv) (.ext fun _ => True)) c' = some (.frz oc (LamX.CodeO c' (X.env.qual ++ "<lambda>"))) := by rw [upd_ne n1, upd_same]
    have atP : upd (upd (upd H P (.tbl (ps ++ #[rawInt pos.line, rawInt pos.col, .ref c']))) c' (.frz oc (LamX.CodeO c' (X.env.qual ++ "<lambda>")))) h'.objs.size (.frz (lamObj X params body scope ((X.mg "__name__").getD .none) c' ctv) (.ext fun _ => True)) P = some (.tbl (ps ++ #[rawInt pos.line, rawInt pos.col, .ref c'])) := by rw [upd_ne n2, upd_ne hPc, upd_same]
    have kp : Keep H (upd (upd (upd H P (.tbl (ps ++ #[rawInt pos.line, rawInt pos.col, .ref c']))) c' (.frz oc (LamX.CodeO c' (X.env.qual ++ "<lambda>")))) h'.objs.size (.frz (lamObj X params body scope ((X.mg "__name__").getD .none) c' ctv) (.ext fun _ => True))) :=
      ⟨fun a xs e => same a _ e (fun _ z => by cases z), fun a o u e => same a _ e (fun _ z => by cases z)⟩
    have eL : (ps ++ #[rawInt pos.line, rawInt pos.col, .ref c']).toList = ps.toList ++ [rawInt pos.line, rawInt pos.col, .ref c'] := by simp
    refine h h'.objs.size _ _ I3 kp (rep.keepT kp same fun p hp => ?_) ⟨_, ctv, c', oc, upd_same, atF⟩
    by_cases hb : p.1 = P
    · rw [hu p hp hb, hb]
      refine ⟨_, atP, by rw [eL]; exact PySem.TriplesOk_snoc _ _ _ _ ht, fun p' cv hcv => ?_⟩
      rw [eL] at hcv
      rcases LamX.among_app _ ht hcv with z | z
      · obtain ⟨c0, o0, e1, e2⟩ := ha p' cv z
        exact ⟨c0, o0, e1, kp.frz _ _ _ e2⟩
      · exact ⟨c', oc, z, atF⟩
    · obtain ⟨ps', a1, a2, a3⟩ := rep.tab p hp
      refine ⟨ps', ?_, a2, fun p' cv hcv => ?_⟩
      · rw [upd_ne (ne_of_none a1 nF), upd_ne (ne_of_none a1 nC), upd_ne hb]; exact a1
      · obtain ⟨c0, o0, e1, e2⟩ := a3 p' cv hcv
        exact ⟨c0, o0, e1, kp.frz _ _ _ e2⟩
  | some cv =>
    obtain ⟨c', oc, e, hco⟩ := ha pos cv hc
    subst e
    refine PySem.W.kla_makeFunctionHit (mg := X.mg) (c := c) (P := P) (ps := ps) (closure_ok hfree) I.ok.glob (I.mod.glob.keeps I.bk) hcode (TB.code.keeps I.bk) hP' ht hc bP fun ctv h' tk hx hsz => ?_
    have I1 : Inv X pins σ H { s with heap := h', toks := tk } := I.kept fun b o e => hx b o e
    have nF : H h'.objs.size = none := I1.hok.fresh (Nat.le_refl _)
    have I3 := I1.laid (t' := tk) (h' := h'.push (lamObj X params body scope ((X.mg "__name__").getD .none) c' ctv)) (a := h'.objs.size) (o := .frz (lamObj X params body scope ((X.mg "__name__").getD .none) c' ctv) (.ext fun _ => True))
      (fun b u e => Heap.get?_push_of_some _ e) (Nat.le_refl _) (fo (Heap.get?_push_size _ rfl))
    have kp : Keep H (upd H h'.objs.size (.frz (lamObj X params body scope ((X.mg "__name__").getD .none) c' ctv) (.ext fun _ => True))) := Keep.new nF
    exact h h'.objs.size _ _ I3 kp (rep.other nF) ⟨_, ctv, c', oc, upd_same, kp.frz _ _ _ hco⟩
end
end AM
end

section
set_option Elab.async false
set_option linter.all false
set_option autoImplicit false
set_option maxRecDepth 100000
set_option maxHeartbeats 4000000
/-! AM 10: a handed lambda runs. -/
namespace AM
open PySem PySem.Spec L2

/-! ### frozen cells -/
mutual
theorem VR.monoS {κ : Cfg} {ι ι' : List Addr} {H H' : Hp} (hι : ι <+: ι') (k : ∀ a xs, SqT κ.K H a xs → SqT κ.K H' a xs) : ∀ {a : AV} {v : V}, VR κ ι H a v → VR κ ι' H' a v
  | .non, v, h => by rw [VR] at h ⊢; exact h
  | .bl b, v, h => by rw [VR] at h ⊢; exact h
  | .int i, v, h => by rw [VR] at h ⊢; exact h
  | .str s, v, h => by rw [VR] at h ⊢; exact h
  | .ref i, v, h => by
    rw [VR] at h ⊢
    obtain ⟨a, e, r⟩ := h
    exact ⟨a, pre_get hι e, r⟩
  | .glo x, v, h => by rw [VR] at h ⊢; exact h
  | .ty n, v, h => by rw [VR] at h ⊢; exact h
  | .tup xs, v, h => by
    rw [VR] at h ⊢
    obtain ⟨a, vs, e, q, r⟩ := h
    exact ⟨a, vs, e, k _ _ q, VRs.monoS hι k r⟩
theorem VRs.monoS {κ : Cfg} {ι ι' : List Addr} {H H' : Hp} (hι : ι <+: ι') (k : ∀ a xs, SqT κ.K H a xs → SqT κ.K H' a xs) : ∀ {xs : List AV} {vs : List V}, VRs κ ι H xs vs → VRs κ ι' H' xs vs
  | [], vs, h => by rw [VRs] at h ⊢; exact h
  | x :: xs, vs, h => by
    rw [VRs] at h ⊢
    obtain ⟨v, ws, e, r, q⟩ := h
    exact ⟨v, ws, e, VR.monoS hι k r, VRs.monoS hι k q⟩
end
theorem OR.monoS {κ : Cfg} {ι ι' : List Addr} {H H' : Hp} (hι : ι <+: ι') (k : ∀ a xs, SqT κ.K H a xs → SqT κ.K H' a xs) {o : AO} {a : Addr} (e : H' a = H a) (h : OR κ ι H o a) : OR κ ι' H' o a := by
  cases o with
  | lst xs => obtain ⟨vs, h1, h2⟩ := h; exact ⟨vs, by rw [e]; exact h1, h2.monoS hι k⟩
  | frz xs => obtain ⟨o, vs, h1, h2⟩ := h; exact ⟨o, vs, by rw [e]; exact h1, h2.monoS hι k⟩
  | ins c fs => obtain ⟨C, dx, gs, h0, h1, h2, h3⟩ := h; exact ⟨C, dx, gs, h0, by rw [e]; exact h1, h2, h3.monoS hι k⟩
  | dct kvs =>
    rcases h with ⟨gs, h1, h2⟩ | ⟨ks, h1, h2, hne⟩
    · exact .inl ⟨gs, by rw [e]; exact h1, Paired.mapP h2 fun p q r => ⟨r.1, r.2.monoS hι k⟩⟩
    · exact .inr ⟨ks, by rw [e]; exact h1, Paired.mapP h2 fun p q r => ⟨r.1, r.2.1.monoS hι k, r.2.2.1, r.2.2.2.monoS hι k⟩, hne⟩
/-- G at cs, H elsewhere -/
def rf (cs : List Addr) (G H : Hp) : Hp := fun a => if a ∈ cs then G a else H a
theorem rf_in {cs : List Addr} {G H : Hp} {a : Addr} (h : a ∈ cs) : rf cs G H a = G a := if_pos h
theorem rf_out {cs : List Addr} {G H : Hp} {a : Addr} (h : a ∉ cs) : rf cs G H a = H a := if_neg h
abbrev unf (cs : List Addr) (H : Hp) : Hp := rf cs (fun _ => none) H
def Fz (cs : List Addr) (H : Hp) : Prop := ∀ c ∈ cs, ∃ o, H c = some (.frz o (.own 0))
section
variable {κ : Cfg} {ι : List Addr} {M : AH} {H G : Hp} {cs : List Addr} {P : Program} {w : World} {h : Heap}
theorem Fz.out (f : Fz cs H) {a : Addr} {u : HO} (e : H a = some u) (n : ∀ ob, u ≠ .frz ob (.own 0)) : a ∉ cs := fun hm => by
  obtain ⟨o, q⟩ := f a hm
  exact n o (Option.some.inj (e.symm.trans q))
theorem Fz.sq (f : Fz cs H) : ∀ a xs, SqT κ.K H a xs → SqT κ.K (unf cs H) a xs := fun a xs q => by
  rcases q with (q | ⟨o, q⟩) | q
  · exact .inl (.inl ((rf_out (f.out q fun _ z => by cases z)).trans q))
  · exact .inl (.inr ⟨o, (rf_out (f.out q fun _ z => by cases z)).trans q⟩)
  · exact .inr q
theorem Rep.unf (r : Rep κ ι M H) (f : Fz cs H) : Rep κ ι M (AM.unf cs H) := by
  refine ⟨r.len, r.nd, fun i o a e ea => ?_, fun p hp => ?_⟩
  · have q := r.obj i o a e ea
    obtain ⟨u, h1, _, h3⟩ := q.ntbl
    exact q.monoS (List.prefix_refl _) f.sq (rf_out (f.out h1 fun ob => h3 ob 0))
  · obtain ⟨ps, a1, a2, a3⟩ := r.tab p hp
    refine ⟨ps, (rf_out (f.out a1 fun _ z => by cases z)).trans a1, a2, fun pos cv hc => ?_⟩
    obtain ⟨c, o, e1, e2⟩ := a3 pos cv hc
    exact ⟨c, o, e1, (rf_out (f.out e2 fun _ z => by unfold LamX.CodeO at z; cases z)).trans e2⟩
theorem rf_keep (n : ∀ c ∈ cs, H c = none) : Keep H (rf cs G H) :=
  ⟨fun a xs e => (rf_out fun hm => by rw [n a hm] at e; cases e).trans e, fun a o u e => (rf_out fun hm => by rw [n a hm] at e; cases e).trans e⟩
theorem rf_same (n : ∀ c ∈ cs, H c = none) : ∀ a u, H a = some u → rf cs G H a = H a := fun a u e => rf_out fun hm => by rw [n a hm] at e; cases e
theorem Rep.rf (r : Rep κ ι M H) (n : ∀ c ∈ cs, H c = none) : Rep κ ι M (AM.rf cs G H) := r.keep (rf_keep n) (rf_same n)
theorem ObjOk.rfs {a : Addr} {o : HO} {H' : Hp} (x : ObjOk P w H h a o) (e : ∀ b u, H b = some u → (∀ ob, u ≠ .frz ob (.own 0)) → H' b = some u) : ObjOk P w H' h a o :=
  x.stay (fun _ _ _ q => q) (fun b q => e b _ q fun _ z => by cases z) (fun b xs q => e b _ q fun _ z => by cases z)
theorem HOk.unf (x : HOk P w H h) (f : Fz cs H) : HOk P w (AM.unf cs H) h := fun a o e => by
  have e : AM.rf cs (fun _ => none) H a = some o := e
  by_cases hm : a ∈ cs
  · rw [rf_in hm] at e; cases e
  · rw [rf_out hm] at e
    exact ObjOk.rfs (x a o e) fun b u q n => (rf_out (f.out q n)).trans q
theorem HOk.rf (x : HOk P w H h) (n : ∀ c ∈ cs, H c = none) (g : ∀ c ∈ cs, ∃ o, G c = some (.frz o (.own 0)) ∧ h.get? c = some o) : HOk P w (AM.rf cs G H) h := fun a o e => by
  by_cases hm : a ∈ cs
  · rw [rf_in hm] at e
    obtain ⟨ob, e1, e2⟩ := g a hm
    rw [e1] at e; cases e
    exact ⟨e2, ob, e2⟩
  · rw [rf_out hm] at e
    exact ObjOk.rfs (x a o e) fun b u q _ => (rf_same n b u q).trans q
end
/-! a state of the callee's with frozen cells, told without them; and back -/
section
variable {fs : List Addr} {H H' G : Hp} {h h' : Heap} {cs : List Addr} {P : Program} {w : World}
/-- thawed behind a run from a frozen heap -/
theorem Un.thaw (u : Un fs [] (rf cs G H) H' h h') (hk : HOk P w H' h') (n : ∀ c ∈ cs, H c = none) (g : ∀ c ∈ cs, ∃ o, G c = some (.frz o (.own 0)) ∧ h.get? c = some o) : Un fs [] H (unf cs H') h h' := by
  have fr : ∀ c ∈ cs, ∃ o, H' c = some (.frz o (.own 0)) ∧ h.get? c = some o ∧ h'.get? c = some o := fun c hc => by
    obtain ⟨o, e1, e2⟩ := g c hc
    have q := u.frzs c o _ ((rf_in hc).trans e1)
    exact ⟨o, q, e2, (hk c _ q).1⟩
  refine ⟨fun b o e z hb hx => ?_, fun b o e z hb hx => ?_, fun b o e z hx => ?_, u.there, fun b xs e => ?_, fun b o x e => ?_, fun b ps e => ?_⟩
  · by_cases hm : b ∈ cs
    · obtain ⟨o', q1, q2, q3⟩ := fr b hm
      rw [e] at q2; cases q2; exact q3
    · exact u.keep b o e ((rf_out hm).trans z) hb hx
  · by_cases hm : b ∈ cs
    · obtain ⟨o', q1, q2, q3⟩ := fr b hm
      rw [e] at q2; cases q2; exact ⟨o.slots, q3⟩
    · exact u.slot b o e ((rf_out hm).trans z) hb hx
  · by_cases hm : b ∈ cs
    · exact rf_in hm
    · exact (rf_out hm).trans (u.free b o e ((rf_out hm).trans z) hx)
  · have hm : b ∉ cs := fun hm => by rw [n b hm] at e; cases e
    exact (rf_out hm).trans (u.tups b xs ((rf_out hm).trans e))
  · have hm : b ∉ cs := fun hm => by rw [n b hm] at e; cases e
    exact (rf_out hm).trans (u.frzs b o x ((rf_out hm).trans e))
  · have hm : b ∉ cs := fun hm => by rw [n b hm] at e; cases e
    obtain ⟨more, q⟩ := u.tbls b ps ((rf_out hm).trans e)
    exact ⟨more, (rf_out hm).trans q⟩
/-- frozen again behind a run from a thawed heap -/
theorem Un.chill (u : Un fs [] (unf cs H) H' h h') (n : ∀ c ∈ cs, H' c = none) : Un fs [] H (rf cs H H') h h' := by
  refine ⟨fun b o e z hb hx => ?_, fun b o e z hb hx => ?_, fun b o e z hx => ?_, u.there, fun b xs e => ?_, fun b o x e => ?_, fun b ps e => ?_⟩
  · refine u.keep b o e ?_ hb hx
    by_cases hm : b ∈ cs
    · exact rf_in hm
    · exact (rf_out hm).trans z
  · refine u.slot b o e ?_ hb hx
    by_cases hm : b ∈ cs
    · exact rf_in hm
    · exact (rf_out hm).trans z
  · by_cases hm : b ∈ cs
    · exact (rf_in hm).trans z
    · exact (rf_out hm).trans (u.free b o e ((rf_out hm).trans z) hx)
  · by_cases hm : b ∈ cs
    · exact (rf_in hm).trans e
    · exact (rf_out hm).trans (u.tups b xs ((rf_out hm).trans e))
  · by_cases hm : b ∈ cs
    · exact (rf_in hm).trans e
    · exact (rf_out hm).trans (u.frzs b o x ((rf_out hm).trans e))
  · by_cases hm : b ∈ cs
    · exact ⟨#[], by rw [rf_in hm, e]; simp⟩
    · obtain ⟨more, q⟩ := u.tbls b ps ((rf_out hm).trans e)
      exact ⟨more, (rf_out hm).trans q⟩
variable {B : Heap}
theorem UB.thaw (u : UB fs (rf cs G H) H' h B h') (hk : HOk P w H' B) (n : ∀ c ∈ cs, H c = none) (g : ∀ c ∈ cs, ∃ o, G c = some (.frz o (.own 0)) ∧ h.get? c = some o) (st : B.StaysIn h') : UB fs H (unf cs H') h B h' := by
  have fr : ∀ c ∈ cs, ∃ o, H' c = some (.frz o (.own 0)) ∧ h.get? c = some o ∧ B.get? c = some o := fun c hc => by
    obtain ⟨o, e1, e2⟩ := g c hc
    have q := u.frzs c o _ ((rf_in hc).trans e1)
    exact ⟨o, q, e2, (hk c _ q).1⟩
  refine ⟨fun b o e z hb => ?_, u.slot, fun b o e z => ?_, u.there, fun b xs e => ?_, fun b o x e => ?_, fun b ps e => ?_⟩
  · by_cases hm : b ∈ cs
    · obtain ⟨o', q1, q2, q3⟩ := fr b hm
      rw [e] at q2; cases q2; exact q3
    · exact u.keep b o e ((rf_out hm).trans z) hb
  · by_cases hm : b ∈ cs
    · exact rf_in hm
    · exact (rf_out hm).trans (u.free b o e ((rf_out hm).trans z))
  · have hm : b ∉ cs := fun hm => by rw [n b hm] at e; cases e
    exact (rf_out hm).trans (u.tups b xs ((rf_out hm).trans e))
  · have hm : b ∉ cs := fun hm => by rw [n b hm] at e; cases e
    exact (rf_out hm).trans (u.frzs b o x ((rf_out hm).trans e))
  · have hm : b ∉ cs := fun hm => by rw [n b hm] at e; cases e
    obtain ⟨more, q⟩ := u.tbls b ps ((rf_out hm).trans e)
    exact ⟨more, (rf_out hm).trans q⟩
theorem UB.chill (u : UB fs (unf cs H) H' h B h') (n : ∀ c ∈ cs, H' c = none) : UB fs H (rf cs H H') h B h' := by
  refine ⟨fun b o e z hb => ?_, u.slot, fun b o e z => ?_, u.there, fun b xs e => ?_, fun b o x e => ?_, fun b ps e => ?_⟩
  · refine u.keep b o e ?_ hb
    by_cases hm : b ∈ cs
    · exact rf_in hm
    · exact (rf_out hm).trans z
  · by_cases hm : b ∈ cs
    · exact (rf_in hm).trans z
    · exact (rf_out hm).trans (u.free b o e ((rf_out hm).trans z))
  · by_cases hm : b ∈ cs
    · exact (rf_in hm).trans e
    · exact (rf_out hm).trans (u.tups b xs ((rf_out hm).trans e))
  · by_cases hm : b ∈ cs
    · exact (rf_in hm).trans e
    · exact (rf_out hm).trans (u.frzs b o x ((rf_out hm).trans e))
  · by_cases hm : b ∈ cs
    · exact ⟨#[], by rw [rf_in hm, e]; simp⟩
    · obtain ⟨more, q⟩ := u.tbls b ps ((rf_out hm).trans e)
      exact ⟨more, (rf_out hm).trans q⟩
end
end AM
end

section
set_option Elab.async false
set_option linter.all false
set_option autoImplicit false
set_option maxRecDepth 100000
set_option maxHeartbeats 4000000
/-! AM 11: what a handed lambda computes. -/
namespace AM
open PySem PySem.Spec L2

/-- a lambda's names: parameters ps, captured ones fr -/
structure LamP (sc scope : Scope) (ps fr : List Str) : Prop where
  kind : scope.kind = .function
  co : scope.isCoroutine = false
  gen : scope.isGenerator = false
  nocell : ∀ y ∈ scope.names, y.2 ≠ .cell
  free : ∀ y ∈ scope.names, y.2 = .free → sc.names.lookup y.1 = some .cell ∨ sc.names.lookup y.1 = some .free
  par : ∀ x ∈ ps, scope.names.lookup x = some .local
  nd : (ps ++ fr).Nodup
  fre : ∀ x ∈ fr, scope.names.lookup x = some .free
def lamPB (sc scope : Scope) (ps fr : List Str) : Bool :=
  decide (scope.kind = .function) && !scope.isCoroutine && !scope.isGenerator && (scope.names.all fun y => !decide (y.2 = .cell) && (!decide (y.2 = .free) || decide (sc.names.lookup y.1 = some .cell) || decide (sc.names.lookup y.1 = some .free))) &&
    (ps.all fun x => decide (scope.names.lookup x = some .local)) && decide ((ps ++ fr).Nodup) && fr.all fun x => decide (scope.names.lookup x = some .free)
theorem lamP_by {sc scope : Scope} {ps fr : List Str} (h : lamPB sc scope ps fr = true) : LamP sc scope ps fr := by
  unfold lamPB at h
  simp only [Bool.and_eq_true, Bool.or_eq_true, Bool.not_eq_true', decide_eq_true_eq, decide_eq_false_iff_not, List.all_eq_true] at h
  obtain ⟨⟨⟨⟨⟨⟨h1, h2⟩, h3⟩, h4⟩, h5⟩, h6⟩, h7⟩ := h
  refine ⟨h1, h2, h3, fun y hy => (h4 y hy).1, fun y hy e => ?_, h5, h6, h7⟩
  rcases (h4 y hy).2 with (z | z) | z
  · exact absurd e z
  · exact .inl z
  · exact .inr z
theorem LamP.has {X : Cx} {scope : Scope} {ps fr : List Str} (L : LamP X.env.scope scope ps fr) (ok : X.Ok) : ∀ y ∈ scope.names, y.2 = .free → ∃ c, X.env.cells.lookup y.1 = some c := fun y hy e => by
  rcases L.free y hy e with k | k
  · exact ok.has _ (.inl k)
  · exact ok.has _ (.inr k)
/-- the context of the lambda's body, entered at s from the frames outer -/
def lamCxP (X : Cx) (N : List Str) (A : Around) (outer : List Env) (s : Shared) (H : Hp) (E : XK) (scope : Scope) (f c' : Addr) : Cx where
  prog := X.prog
  w := X.w
  K := X.K
  mg := X.mg
  base := X.base
  A := A.deeper (LamX.lamEnv X scope s.heap.objs.size f c')
  N := N
  s_0 := s
  H_0 := H
  env := LamX.lamEnv X scope s.heap.objs.size f c'
  outer := outer
  stack := LamX.lamEnv X scope s.heap.objs.size f c' :: outer
  ex := []
  fn := fun _ => false
  calm := true
  pn := []
  xe := fun e s' => wpAny (model X.prog X.w) (A.deeper (LamX.lamEnv X scope s.heap.objs.size f c')) (leaving (LamX.lamEnv X scope s.heap.objs.size f c') e) (fun _ s'' => L2.CX X.prog X.w outer H s E e s'') (fun e' s'' => L2.CX X.prog X.w outer H s E e' s'') s'
theorem rz_lookup {ps : List Str} {us : List Value} {i : Nat} {x : Str} {u : Value} (nd : ps.Nodup) (hl : us.length = ps.length) (e1 : ps[i]? = some x) (e2 : us[i]? = some u) : (ps.zip us).reverse.lookup x = some u := by
  have hm : (x, u) ∈ (ps.zip us).reverse := by
    rw [List.mem_reverse]
    refine List.mem_of_getElem? (i := i) ?_
    rw [List.getElem?_zip_eq_some]
    exact ⟨e1, e2⟩
  have hn : ((ps.zip us).reverse.map (·.1)).Nodup := by
    rw [List.map_reverse, List.map_fst_zip (by omega)]
    exact (List.reverse_perm ps).nodup_iff.mpr nd
  generalize (ps.zip us).reverse = l at hm hn
  induction l with
  | nil => cases hm
  | cons p l ih =>
    obtain ⟨y, v⟩ := p
    rw [List.map_cons, List.nodup_cons] at hn
    rw [List.lookup_cons]
    rcases List.mem_cons.mp hm with e | hm2
    · cases e; simp
    · have : (x == y) = false := by
        rw [beq_eq_false_iff_ne]
        intro z; subst z
        exact hn.1 (List.mem_map.mpr ⟨_, hm2, rfl⟩)
      rw [this]
      exact ih hm2 hn.2
/-- the slots of a lambda's body -/
def lamL {α : Type} (js : List Nat) (vs : List (Option α)) (as : List α) : List (Option α) := as.map some ++ js.map fun j => (vs[j]?).join
/-- what the lambda computes: n parameters, captured slots js of vs -/
def lamF (n : Nat) (js : List Nat) (vs : Loc) (c : CE) : List AV → AH → R AV := fun as M => if as.length = n then c (lamL js vs (as.map .val)) M else .bad
section
variable {X : Cx} {pins : List (Addr × Obj)} {σ : L2.St} {H H1 : Hp} {s s1 : Shared} {scope : Scope} {ps fr : List Str} {js : List Nat}
theorem clo_cell (I : Inv X pins σ H s) (L : LamP X.env.scope scope ps fr) {y : Str} {c : Addr} (e : (cloFrom X.env.cells scope.names []).lookup y = some c) : X.env.cells.lookup y = some c := by
  rcases cloFrom_mem (PySem.mem_of_lookup e) with hm | ⟨h1, h2⟩
  · cases hm
  · obtain ⟨c1, hc⟩ := L.has I.ok _ h1 rfl
    have hc : X.env.cells.lookup y = some c1 := hc
    have e2 : c = c1 := by
      rw [h2, hc] <;> rfl
    rw [e2]
    exact hc
/-- the lambda's entry -/
theorem lam_startP {cs : List Addr} {A : Around} {outer : List Env} {E : XK} {f c' : Addr} {h₁ : Heap} {tk : Nat} {us : List Value} {ws : List V} (I : Inv X pins σ H s) (cin : ∀ {y : Str} {c : Addr}, X.env.cells.lookup y = some c → c ∈ cs) (L : LamP X.env.scope scope ps fr) (hjs : ∀ (i : Nat) (x : Str), fr[i]? = some x → ∃ j, js[i]? = some j ∧ X.N[j]? = some x) (hjl : js.length = fr.length)
    (e0 : Env0 X.prog X.w X.K X.mg X.base A outer s1 H1) (hd : A.handled = none)
    (fz : ∀ c ∈ cs, ∃ o, H1 c = some (.frz o (.own 0)) ∧ s.heap.get? c = some o) (hl : us.length = ps.length) (hv : Vals ws us)
    (hns : h₁.Ns s1.heap.objs.size fun y => (ps.zip us).reverse.lookup y) (kp : ∀ b o, s1.heap.get? b = some o → h₁.get? b = some o) :
    Inv (lamCxP X (ps ++ fr) A outer s1 (unf cs H1) E scope f c') [] (lamL js σ ws) (unf cs H1) { s1 with heap := h₁, toks := tk } := by
  have cm := fun {y c} => clo_cell (y := y) (c := c) I L
  have Fz0 : Fz cs H1 := fun c hc => let ⟨o, e1, _⟩ := fz c hc; ⟨o, e1⟩
  have look : ∀ {y}, scope.names.lookup y = some .free → ∃ c, (cloFrom X.env.cells scope.names []).lookup y = some c := fun {y} hl => by
    have hy : (y, NameKind.free) ∈ scope.names := PySem.mem_of_lookup hl
    exact mem_lookup (cloFrom_has (cells := X.env.cells) (acc := []) hy)
  have cellK : ∀ {y : Str} {c : Addr} {v : Option Value}, X.env.cells.lookup y = some c → s.heap.IsCell c v → h₁.IsCell c v := fun {y c v} e ⟨o, ho, hdt⟩ => by
    obtain ⟨o', e1, e2⟩ := fz c (cin e)
    rw [ho] at e2; cases e2
    exact ⟨o, kp _ _ (e0.hok c _ e1).1, hdt⟩
  have noA : ∀ b : Addr, b ∉ (lamCxP X (ps ++ fr) A outer s1 (unf cs H1) E scope f c').ex := fun b z => absurd (show b ∈ ([] : List Addr) from z) (by simp)
  have un0 : ∀ {b : Addr}, H1 b = none → unf cs H1 b = none := fun {b} n => by
    by_cases hm : b ∈ cs
    · exact rf_in hm
    · exact (rf_out hm).trans n
  have hok : HOk X.prog X.w (unf cs H1) s1.heap := HOk.unf e0.hok Fz0
  refine ⟨⟨e0.mod, L.kind, rfl, rfl, Nat.le_refl _, fun y z c e1 e2 => I.ok.inj y z c (cm e1) (cm e2), fun y hy => ?_, fun y c z _ => ?_, fun _ => hd, Around.frames_deeper e0.frames, .inr ⟨rfl, rfl⟩, fun b z => absurd z (noA b), fun b o e => ⟨(e0.bs b o e).1, un0 (e0.bs b o e).2⟩, e0.bsz, fun b _ _ => noA b,
      fun b z => absurd z (noA b), e0.funs, fun b hb => un0 (e0.frf b hb)⟩,
    rfl, e0.bare, Un.kept kp, ⟨_, hns, fun i y v e1 e2 e3 => ?_⟩, fun y c e => ?_, un0 (e0.hok.fresh (Nat.le_refl _)), fun y c e => rf_in (cin (cm e)), fun q hq => absurd (show q ∈ ([] : List (Addr × Obj)) ++ [] from hq) (by simp), hok.kept kp, ?_⟩
  · have hy : scope.names.lookup y = some .cell ∨ scope.names.lookup y = some .free := hy
    rcases hy with hy | hy
    · exact absurd rfl (L.nocell _ (PySem.mem_of_lookup hy))
    · exact look hy
  · have z : false = true := z
    cases z
  · have e1 : (ps ++ fr)[i]? = some y := e1
    have e2 : (lamL js σ ws)[i]? = some (some v) := e2
    have hwl : ws.length = ps.length := (Paired.length hv).trans hl
    unfold lamL at e2
    by_cases hi : i < ps.length
    · rw [List.getElem?_append_left hi] at e1
      rw [List.getElem?_append_left (by simp [hwl]; exact hi), List.getElem?_map] at e2
      have e2' : ws[i]? = some v := by
        cases q : ws[i]? with
        | none => rw [q] at e2; cases e2
        | some v' => rw [q] at e2; cases e2; rfl
      obtain ⟨u, hu, rv⟩ := hv.get e2'
      exact ⟨u, rv, .inl ⟨L.par y (List.mem_of_getElem? e1), rz_lookup (List.nodup_append.mp L.nd).1 hl e1 hu⟩⟩
    · rw [List.getElem?_append_right (by omega)] at e1
      rw [List.getElem?_append_right (by simp [hwl]; omega), List.getElem?_map, List.length_map, hwl] at e2
      obtain ⟨j, q1, q2⟩ := hjs _ _ e1
      rw [q1] at e2
      have k : scope.names.lookup y = some .free := L.fre y (List.mem_of_getElem? e1)
      have e2' : σ[j]? = some (some v) := by
        cases q : σ[j]? with
        | none => rw [Option.map_some, q] at e2; simp at e2
        | some o =>
          rw [Option.map_some, q] at e2
          simp at e2
          rw [e2]
      obtain ⟨m, hn, hlk⟩ := I.loc
      have hvis : Vis X.env.scope y := (L.free _ (PySem.mem_of_lookup k) rfl).elim (fun k => .inr (.inl k)) (fun k => .inr (.inr k))
      obtain ⟨w', r, q⟩ := hlk j y v q2 e2' hvis
      obtain ⟨c2, h2⟩ := look k
      refine ⟨w', r, .inr ⟨.inr k, c2, h2, ?_⟩⟩
      have c1 := cm h2
      rcases q with ⟨k', _⟩ | ⟨_, c3, e', z⟩
      · have k' : X.env.scope.names.lookup y = some .local := k'
        rcases L.free _ (PySem.mem_of_lookup k) rfl with k2 | k2 <;> rw [show X.env.scope.names.lookup y = _ from k2] at k' <;> cases k'
      · rw [c1] at e'
        cases e'
        exact cellK c1 z
  · obtain ⟨w', z⟩ := I.cell y c (cm e)
    exact ⟨w', cellK (cm e) z⟩
  · show (lamL js σ ws).length = (ps ++ fr).length
    unfold lamL
    have hwl : ws.length = ps.length := (Paired.length hv).trans hl
    simp [hwl, hjl]
/-- behind the lambda: an exception -/
theorem cx_chill {P : Program} {w : World} {outer : List Env} {cs : List Addr} {H1 : Hp} {s1 s2 : Shared} {E : XK} {e : Value} (fz : ∀ c ∈ cs, ∃ o, H1 c = some (.frz o (.own 0)) ∧ s1.heap.get? c = some o) (nf : ∀ c ∈ cs, c ∉ frs outer)
    (z : L2.CX P w outer (unf cs H1) s1 (fun cls d H' => (∀ c ∈ cs, H' c = none) → E cls d (rf cs H1 H')) e s2) : L2.CX P w outer H1 s1 E e s2 := by
  obtain ⟨a, B, H', cls, d, rfl, fl, hok, ub, na, os, ag, hE⟩ := z
  have n : ∀ c ∈ cs, H' c = none := fun c hc => let ⟨o, _, e2⟩ := fz c hc; ub.free c o e2 (rf_in hc)
  have g : ∀ c ∈ cs, ∃ o, H1 c = some (.frz o (.own 0)) ∧ B.get? c = some o := fun c hc => let ⟨o, e1, e2⟩ := fz c hc; ⟨o, e1, ub.keep c o e2 (rf_in hc) (nf c hc)⟩
  refine ⟨a, B, rf cs H1 H', cls, d, rfl, fl, HOk.rf hok n g, UB.chill ub n, ?_, os, ag, hE n⟩
  by_cases hm : a ∈ cs
  · obtain ⟨o, _, e2⟩ := g a hm
    have := fl.2.1
    rw [e2] at this; cases this
  · exact (rf_out hm).trans na
/-- behind a call with frozen cells: an exception -/
theorem cx_thaw {P : Program} {w : World} {outer : List Env} {cs : List Addr} {H G : Hp} {s1 s2 : Shared} {E : XK} {e : Value} (n : ∀ c ∈ cs, H c = none) (g : ∀ c ∈ cs, ∃ o, G c = some (.frz o (.own 0)) ∧ s1.heap.get? c = some o)
    (z : L2.CX P w outer (rf cs G H) s1 (fun cls d H' => E cls d (unf cs H')) e s2) : L2.CX P w outer H s1 E e s2 := by
  obtain ⟨a, B, H', cls, d, rfl, fl, hok, ub, na, os, ag, hE⟩ := z
  have f : Fz cs H' := fun c hc => let ⟨o, e1, _⟩ := g c hc; ⟨o, ub.frzs c o _ ((rf_in hc).trans e1)⟩
  refine ⟨a, B, unf cs H', cls, d, rfl, fl, HOk.unf hok f, UB.thaw ub hok n g fl.1, ?_, os, ag, hE⟩
  by_cases hm : a ∈ cs
  · exact rf_in hm
  · exact (rf_out hm).trans na
end
abbrev cellsOf (X : Cx) : List Addr := X.env.cells.filterMap fun p => X.env.cells.lookup p.1
theorem cells_in {X : Cx} {y : Str} {c : Addr} (e : X.env.cells.lookup y = some c) : c ∈ cellsOf X := List.mem_filterMap.mpr ⟨(y, c), PySem.mem_of_lookup e, e⟩
theorem cells_ex {X : Cx} {c : Addr} (h : c ∈ cellsOf X) : ∃ y, X.env.cells.lookup y = some c := let ⟨p, _, e⟩ := List.mem_filterMap.mp h; ⟨p.1, e⟩
abbrev frzOf (h : Heap) : Hp := fun a => (h.get? a).map fun o => .frz o (.own 0)
section
variable [Tb] {X : Cx} {pins : List (Addr × Obj)} {σ : L2.St} {H : Hp} {s : Shared} {scope : Scope} {ps fr : List Str} {js : List Nat} {ι : List Addr} {vs : Loc} {M : AH} {f : Addr} {params : Arguments} {body : Expr} {k : Nat} {c : CE}
theorem cells_none (I : Inv X pins σ H s) : ∀ c ∈ cellsOf X, H c = none := fun c hc => let ⟨y, e⟩ := cells_ex hc; I.freeC y c e
theorem cells_frz (I : Inv X pins σ H s) : ∀ c ∈ cellsOf X, ∃ o, frzOf s.heap c = some (.frz o (.own 0)) ∧ s.heap.get? c = some o := fun c hc => by
  obtain ⟨y, e⟩ := cells_ex hc
  obtain ⟨v, o, ho, _⟩ := I.cell y c e
  exact ⟨o, by show (s.heap.get? c).map _ = _; rw [ho]; rfl, ho⟩
theorem sls_lam {κ : Cfg} {ι1 : List Addr} {H1 : Hp} {as : List AV} {ws : List V} (hs : SLs κ ι1 H1 vs σ) (ha : VRs κ ι1 H1 as ws) : SLs κ ι1 H1 (lamL js vs (as.map .val)) (lamL js σ ws) := by
  have hl := ha.length
  refine ⟨by unfold lamL; simp [hl], fun i sv e => ?_⟩
  unfold lamL at e ⊢
  by_cases hi : i < as.length
  · rw [List.getElem?_append_left (by simpa using hi), List.getElem?_map, List.getElem?_map] at e
    rw [List.getElem?_append_left (by simp [← hl]; exact hi), List.getElem?_map]
    cases q : as[i]? with
    | none => rw [q] at e; cases e
    | some a =>
      rw [q] at e
      simp at e
      subst e
      obtain ⟨v, ev, rv⟩ := ha.get q
      exact ⟨v, by rw [ev]; rfl, rv⟩
  · rw [List.getElem?_append_right (by simp; omega), List.getElem?_map] at e
    rw [List.getElem?_append_right (by simp; omega), List.getElem?_map]
    simp only [List.length_map] at e ⊢
    rw [hl] at e
    cases q : js[i - ws.length]? with
    | none => rw [q] at e; cases e
    | some j =>
      rw [q] at e
      have e2 : vs[j]? = some (some sv) := by
        cases q2 : vs[j]? with
        | none => rw [Option.map_some, q2] at e; simp at e
        | some o => rw [Option.map_some, q2] at e; simp at e; rw [e]
      obtain ⟨v, ev, rv⟩ := hs.at_ j sv e2
      exact ⟨v, by rw [Option.map_some, ev]; rfl, rv⟩
theorem clo_svr (I : Inv X pins σ H s) (hr0 : Rel (kf X) ι vs M σ H) (LA : LamAt X H params body scope f) (L : LamP X.env.scope scope ps fr) (hjs : ∀ (i : Nat) (x : Str), fr[i]? = some x → ∃ j, js[i]? = some j ∧ X.N[j]? = some x) (hjl : js.length = fr.length)
    (hbind : ∀ (q : Str) (cl : List (Str × Addr)) (pm cv ctv : Value) (us : List Value), us.length = ps.length → bindArgs (PySem.W.kla_fn "<lambda>" q params body scope cl pm cv ctv) ⟨us, []⟩ = pure (ps.zip us))
    (hbody : ∀ (A : Around) (outer : List Env) (s1 : Shared) (H1 : Hp) (E : XK) (f c' : Addr), Bd (lamCxP X (ps ++ fr) A outer s1 H1 E scope f c') (WR E) k → EvE (lamCxP X (ps ++ fr) A outer s1 H1 E scope f c') (WR E) body c) :
    SVR (kf X) ι (rf (cellsOf X) (frzOf s.heap) H) (.clo (k + 1) (lamF ps.length js vs c)) (.ref f) := by
  obtain ⟨pm, ctv, c', oc, hf, hc'⟩ := LA
  have cN := cells_none I
  have cF := cells_frz I
  have out : ∀ {a u}, H a = some u → a ∉ cellsOf X := fun {a u} e hm => by rw [cN a hm] at e; cases e
  have hfG := (rf_out (G := frzOf s.heap) (out hf)).trans hf
  have hcG := (rf_out (G := frzOf s.heap) (out hc')).trans hc'
  refine ⟨f, rfl, .inl ⟨_, _, _, _, _, hfG⟩, fun A outer s1 H1 ι1 M1 as us ws Q E hr gd e0 hι hk rep hv hvals o => ?_⟩
  have o : OutF (kf X) ι1 H1 Q E (lamF ps.length js vs c as M1) := o
  unfold lamF at o
  split at o
  case isFalse => exact o.elim
  rename_i hal
  have hul : us.length = ps.length := by rw [← hal, hv.length]; exact (Paired.length hvals).symm
  have fz : ∀ c ∈ cellsOf X, ∃ o, H1 c = some (.frz o (.own 0)) ∧ s.heap.get? c = some o := fun c hc => by
    obtain ⟨o, e1, e2⟩ := cF c hc
    exact ⟨o, hk.frz _ _ _ ((rf_in hc).trans e1), e2⟩
  have fz1 : ∀ c ∈ cellsOf X, ∃ o, H1 c = some (.frz o (.own 0)) ∧ s1.heap.get? c = some o := fun c hc => by
    obtain ⟨o, e1, e2⟩ := fz c hc
    exact ⟨o, e1, (e0.hok c _ e1).1⟩
  have Fz0 : Fz (cellsOf X) H1 := fun c hc => let ⟨o, e1, _⟩ := fz c hc; ⟨o, e1⟩
  have nf : ∀ c ∈ cellsOf X, c ∉ frs outer := fun c hc hm => by
    obtain ⟨o, e1, _⟩ := fz c hc
    rw [e0.frf c hm] at e1; cases e1
  have of1 : s1.heap.get? f = some (lamObj X params body scope pm c' ctv) := (e0.hok f _ (hk.frz _ _ _ hfG)).1
  obtain ⟨hoc, ⟨oc', vs', t, hoc', hdc, hvc⟩, _, _⟩ := e0.hok c' _ (hk.frz _ _ _ hcG)
  have lim : s1.heap.NoLimit := e0.mod.nolimit.keeps fun b o e => (e0.bs b o e).1
  refine PySem.W.kla_callFunE hr.depth of1 rfl L.co L.gen rfl ⟨c', oc', vs', t, rfl, hoc', hdc, hvc⟩ ?_
  rw [hbind _ _ _ _ _ us hul]
  refine wpAny_pure (wpAny_newFunctionEnv L.nocell (fun y hy => L.par y.1 (List.of_mem_zip (show (y.1, y.2) ∈ ps.zip us from hy)).1) (fun h₁ hns hsb => ⟨lim.fresh _ hsb, ?_⟩) L.kind)
  show codeAny _ _ (.expr body (LamX.lamEnv X scope s1.heap.objs.size f c')) _ _
  have kp : ∀ b o, s1.heap.get? b = some o → h₁.get? b = some o := fun b o e => hsb.extBut b o (Nat.ne_of_lt (Heap.lt_size e)) (Heap.get?_push_of_some _ e)
  have J : Inv (lamCxP X (ps ++ fr) A outer s1 (unf (cellsOf X) H1) (fun cls d H' => (∀ c ∈ cellsOf X, H' c = none) → E cls d (rf (cellsOf X) H1 H')) scope f c') [] (lamL js σ ws) (unf (cellsOf X) H1) { s1 with heap := h₁, toks := s1.toks + (ps.zip us).length } :=
    lam_startP I cells_in L hjs hjl e0 hr.hd fz hul hvals hns kp
  have B : Bd (lamCxP X (ps ++ fr) A outer s1 (unf (cellsOf X) H1) (fun cls d H' => (∀ c ∈ cellsOf X, H' c = none) → E cls d (rf (cellsOf X) H1 H')) scope f c') (WR fun cls d H' => (∀ c ∈ cellsOf X, H' c = none) → E cls d (rf (cellsOf X) H1 H')) k := by
    refine ⟨⟨rfl, L.nd, takes_of rfl rfl rfl rfl, hr.deeper _, gd⟩, passes_of rfl, fun _ x c e => ?_⟩
    have hc := cells_in (clo_cell I L e)
    obtain ⟨o, e1, e2⟩ := fz1 c hc
    refine ⟨?_, fun hm => ?_⟩
    · cases q : X.base.get? c with
      | none => exact q
      | some o' => have := (e0.bs c o' q).2; rw [e1] at this; cases this
    · rcases List.mem_cons.mp (show c ∈ s1.heap.objs.size :: frs outer from hm) with h | h
      · have := Heap.lt_size e2; rw [h] at this; exact Nat.lt_irrefl _ this
      · exact nf c hc h
  have K0 : Keep H (unf (cellsOf X) H1) := by
    have k1 : ∀ a u, H a = some u → rf (cellsOf X) (frzOf s.heap) H a = some u := fun a u e => (rf_out (out e)).trans e
    exact ⟨fun a xs e => (rf_out (out e)).trans (hk.tup _ _ (k1 _ _ e)), fun a o u e => (rf_out (out e)).trans (hk.frz _ _ _ (k1 _ _ e))⟩
  have R0 : Rel (kf X) ι1 (lamL js vs (as.map .val)) M1 (lamL js σ ws) (unf (cellsOf X) H1) := ⟨sls_lam (hr0.sl.mono hι K0) (hv.monoS (List.prefix_refl _) Fz0.sq), rep.unf Fz0⟩
  have back : ∀ {H'}, Keep (unf (cellsOf X) H1) H' → (∀ c ∈ cellsOf X, H' c = none) → Keep H1 (rf (cellsOf X) H1 H') := fun {H'} q n => by
    refine ⟨fun a xs e => ?_, fun a o u e => ?_⟩
    · by_cases hm : a ∈ cellsOf X
      · exact (rf_in hm).trans e
      · exact (rf_out hm).trans (q.tup _ _ ((rf_out hm).trans e))
    · by_cases hm : a ∈ cellsOf X
      · exact (rf_in hm).trans e
      · exact (rf_out hm).trans (q.frz _ _ _ ((rf_out hm).trans e))
  have ht : rdE (kf X) (WR fun cls d H' => (∀ c ∈ cellsOf X, H' c = none) → E cls d (rf (cellsOf X) H1 H')) c (lamL js σ ws) (unf (cellsOf X) H1) (fun v H' => (∀ c ∈ cellsOf X, H' c = none) → Q v (rf (cellsOf X) H1 H')) := by
    refine ⟨ι1, _, M1, R0, ?_⟩
    cases q : c (lamL js vs (as.map .val)) M1 with
    | ok a M' =>
      rw [q] at o
      exact fun ι' H' v h1 h2 h3 h4 n => o ι' _ v h1 (back h2 n) (h3.rep.rf n) (h4.mono (List.prefix_refl _) (rf_keep n))
    | exc x fs M' =>
      rw [q] at o
      refine fun ι' H' C d h1 h2 h3 h4 n => o ι' _ C d h1 (back h2 n) (h3.rep.rf n) ⟨h4.1, ?_⟩
      have h5 := h4.2
      cases d with
      | none => exact h5
      | some d =>
        obtain ⟨gs, g1, g2, g3⟩ := h5
        exact ⟨gs, (rf_same n _ _ g1).trans g1, g2, g3.mono (List.prefix_refl _) (rf_keep n)⟩
    | bad => rw [q] at o; exact o
  refine PySem.W.kla_codeExpr (wpAny_mono ((hbody A outer s1 _ _ f c' B).run [] _ _ _ _ J ht) (fun v s' hq => ?_) fun e s' hq => ?_)
  · obtain ⟨w', H', J', rv, q⟩ := hq
    have ub : Un (frs outer) [] (unf (cellsOf X) H1) H' s1.heap s'.heap := J'.base
    have n : ∀ c ∈ cellsOf X, H' c = none := fun c hc => let ⟨o, _, e2⟩ := fz1 c hc; ub.free c o e2 (rf_in hc) (by simp)
    have g : ∀ c ∈ cellsOf X, ∃ o, H1 c = some (.frz o (.own 0)) ∧ s'.heap.get? c = some o := fun c hc => let ⟨o, e1, e2⟩ := fz1 c hc; ⟨o, e1, ub.keep c o e2 (rf_in hc) (nf c hc) (by simp)⟩
    exact ⟨w', rf (cellsOf X) H1 H', J'.os, J'.bare, Un.chill ub n, HOk.rf J'.hok n g, rv, q n⟩
  · exact wpAny_mono hq (fun _ s'' z => cx_chill fz1 nf z) fun _ s'' z => cx_chill fz1 nf z
end
end AM
end

section
set_option Elab.async false
set_option linter.all false
set_option autoImplicit false
set_option maxRecDepth 100000
set_option maxHeartbeats 4000000
/-! AM 12: calls that hand closures on; calls of closures. -/
namespace AM
open PySem PySem.Spec L2

abbrev CX' := Loc → AH → R (List SV)
/-- what a lambda's text asks -/
structure LamOk [Tb] (X : Cx) (params : Arguments) (body : Expr) (scope : Scope) (ps fr : List Str) (js : List Nat) (k : Nat) (c : CE) : Prop where
  L : LamP X.env.scope scope ps fr
  hjs : ∀ (i : Nat) (x : Str), fr[i]? = some x → ∃ j, js[i]? = some j ∧ X.N[j]? = some x
  hjl : js.length = fr.length
  hbind : ∀ (q : Str) (cl : List (Str × Addr)) (pm cv ctv : Value) (us : List Value), us.length = ps.length → bindArgs (PySem.W.kla_fn "<lambda>" q params body scope cl pm cv ctv) ⟨us, []⟩ = pure (ps.zip us)
  hbody : ∀ (A : Around) (outer : List Env) (s1 : Shared) (H1 : Hp) (E : XK) (f c' : Addr), Bd (lamCxP X (ps ++ fr) A outer s1 H1 E scope f c') (WR E) k → EvE (lamCxP X (ps ++ fr) A outer s1 H1 E scope f c') (WR E) body c
theorem js_by {N : List Str} {fr : List Str} {js : List Nat} (h : (js.map fun j => N[j]?) = fr.map some) : (∀ (i : Nat) (x : Str), fr[i]? = some x → ∃ j, js[i]? = some j ∧ N[j]? = some x) ∧ js.length = fr.length := by
  refine ⟨fun i x e => ?_, by simpa using congrArg List.length h⟩
  have e2 : (fr.map some)[i]? = some (some x) := by rw [List.getElem?_map, e]; rfl
  rw [← h, List.getElem?_map] at e2
  cases q : js[i]? with
  | none => rw [q] at e2; cases e2
  | some j => rw [q] at e2; exact ⟨j, rfl, Option.some.inj e2⟩
def AR [Tb] (X : Cx) (vs : Loc) (ι : List Addr) (H : Hp) (sv : SV) (w : V) : Prop := SVR (kf X) ι H sv w ∨ ∃ (params : Arguments) (body : Expr) (scope : Scope) (ps fr : List Str) (js : List Nat) (k : Nat) (c : CE) (f : Addr),
  w = .ref f ∧ LamAt X H params body scope f ∧ LamOk X params body scope ps fr js k c ∧ sv = .clo (k + 1) (lamF ps.length js vs c)
def ARs [Tb] (X : Cx) (vs : Loc) : List Addr → Hp → List SV → List V → Prop := fun ι H => Paired (AR X vs ι H)
def rdX [Tb] (X : Cx) (W : WX) (r : CX') : TA := fun σ H Q => ∃ ι vs M, Rel (kf X) ι vs M σ H ∧ Out (kf X) W (ARs X vs) ι vs σ H Q (r vs M)
abbrev EvX [Tb] (X : Cx) (W : WX) (es : List Expr) (r : CX') : Prop := PA X es (rdX X W r)
def nilX : CX' := fun _ M => .ok [] M
def consX (c : CE) (r : CX') : CX' := fun vs M => (c vs M).bind fun a M1 => (r vs M1).bind fun as M2 => .ok (.val a :: as) M2
/-- a slot's thing, handed on -/
def consV (i : Nat) (r : CX') : CX' := fun vs M => match vs[i]? with
  | some (some sv) => (r vs M).bind fun as M2 => .ok (sv :: as) M2
  | _ => .bad
def consL (k n : Nat) (js : List Nat) (c : CE) (r : CX') : CX' := fun vs M => (r vs M).bind fun as M2 => .ok (.clo (k + 1) (lamF n js vs c) :: as) M2
def callX (n : Nat) (F : List SV → AH → R AV) (r : CX') : CE := fun vs M => (r vs M).bind fun as M1 => if as.length = n then F as M1 else .bad
def cloC (kx i : Nat) (r : CA) : CE := fun vs M => match vs[i]? with
  | some (some (.clo k F)) => if k ≤ kx then (r vs M).bind F else .bad
  | _ => .bad
section
variable [Tb] {X : Cx} {W : WX} {e : Expr} {es : List Expr} {pos p : Pos} {r : CX'} {c : CE} {x : Str} {k n : Nat} {F : List SV → AH → R AV}
theorem AR.mono {vs : Loc} {ι ι' : List Addr} {H H' : Hp} (hι : ι <+: ι') (q : Keep H H') {sv : SV} {w : V} (h : AR X vs ι H sv w) : AR X vs ι' H' sv w :=
  h.imp (fun z => z.mono hι q) fun ⟨params, body, scope, ps, fr, js, k, c, f, e, ⟨pm, ctv, c', oc, a1, a2⟩, b, d⟩ => ⟨params, body, scope, ps, fr, js, k, c, f, e, ⟨pm, ctv, c', oc, q.frz _ _ _ a1, q.frz _ _ _ a2⟩, b, d⟩
theorem ex_nil : EvX X W [] nilX := PA.imp pa_nil fun σ H Q ⟨ι, vs, M, hr, o⟩ => Out.fin hr o .nil
/-- one more argument, then the rest -/
theorem ex_step {te : TE} {sv : SV} (ha : PE X e te) (hr : EvX X W es r) (hs : starEach (e :: es) X.env = (false, eval e X.env) :: starEach es X.env) {R' : TA}
    (h : ∀ σ H Q, R' σ H Q → te σ H fun w H1 => ∃ ι vs M sv, Rel (kf X) ι vs M σ H1 ∧ AR X vs ι H1 sv w ∧ Out (kf X) W (ARs X vs) ι vs σ H1 Q ((r vs M).bind fun as M2 => .ok (sv :: as) M2)) (hm : ∀ σ H (Q Q' : VK), te σ H Q → (∀ v H', Q v H' → Q' v H') → te σ H Q') : PA X (e :: es) R' :=
  PA.imp (pa_cons ha hr hs) fun σ H Q q => hm _ _ _ _ (h σ H Q q) fun w H1 ⟨ι, vs, M, sv, a1, a2, a3⟩ => ⟨ι, vs, M, a1, (Out.bind a3).imp fun ι' H' svs ws M' g1 g2 g3 g4 ⟨ι1, as, M1, k1, k2, k3, k4, k5⟩ => Out.fin k3 k5 (.cons (a2.mono k1 k2) k4)⟩
theorem ex_cons {ca : CE} (ha : EvE X W e ca) (hr : EvX X W es r) (hs : starEach (e :: es) X.env = (false, eval e X.env) :: starEach es X.env := by rfl) : EvX X W (e :: es) (consX ca r) :=
  ex_step (sv := .val .non) ha hr hs (fun σ H Q ⟨ι, vs, M, hr, o⟩ => Out.run hr o fun ι1 a M1 v H1 h1 h2 h3 h4 h5 => ⟨ι1, vs, M1, .val a, h3, .inl h4, h5⟩) fun σ H Q Q' h k => rd.imp h k
theorem ex_var (i : Nat) (hr : EvX X W es r) (hN : X.N[i]? = some x := by rfl) (hv : Vis X.env.scope x := by first | exact Or.inl rfl | exact Or.inr (Or.inl rfl) | exact Or.inr (Or.inr rfl)) (hd : (x == ("__debug__" : Str)) = false := by decide +kernel)
    (hcd : (x == ("__classdict__" : Str)) = false := by decide +kernel) (hs : starEach (.Name x pos :: es) X.env = (false, eval (.Name x pos) X.env) :: starEach es X.env := by rfl) : EvX X W (.Name x pos :: es) (consV i r) :=
  ex_step (sv := .val .non) (pe_var hN hv hd hcd) hr hs (fun σ H Q ⟨ι, vs, M, hr, o⟩ => by
    unfold consV at o
    split at o
    · rename_i sv e
      obtain ⟨v, ev, rv⟩ := hr.sl.at_ i _ e
      exact ⟨v, ev, ι, vs, M, sv, hr, .inl rv, o⟩
    · exact o.elim) fun σ H Q Q' ⟨v, e, h⟩ k => ⟨v, e, k _ _ h⟩
theorem pe_lam {params : Arguments} {body : Expr} {scope : Scope} (L : LmOk X) (hdef : defaultsOf params X.env = ([], [])) (hfree : X.Ok → ∀ y ∈ scope.names, y.2 = .free → ∃ c, X.env.cells.lookup y.1 = some c) :
    PE X (.Lambda params body scope pos) (fun σ H Q => ∃ ι M, Rep (kf X) ι M H ∧ ∀ f H1, Keep H H1 → Rep (kf X) ι M H1 → LamAt X H1 params body scope f → Q (.ref f) H1) :=
  ⟨fun pins s σ H Q I ⟨ι, M, rep, q⟩ => lam_make3 I rep L hdef (hfree I.ok) fun f H1 s' I1 kp rep1 la => ⟨.ref f, H1, I1, rfl, q f H1 kp rep1 la⟩⟩
theorem ex_lam {params : Arguments} {body : Expr} {scope : Scope} {ps fr : List Str} {js : List Nat} (L : LmOk X) (O : LamOk X params body scope ps fr js k c) (hr : EvX X W es r) (hdef : defaultsOf params X.env = ([], []) := by rfl)
    (hs : starEach (.Lambda params body scope pos :: es) X.env = (false, eval (.Lambda params body scope pos) X.env) :: starEach es X.env := by rfl) : EvX X W (.Lambda params body scope pos :: es) (consL k ps.length js c r) :=
  ex_step (sv := .val .non) (pe_lam L hdef fun ok => O.L.has ok) hr hs (fun σ H Q ⟨ι, vs, M, hr, o⟩ => ⟨ι, M, hr.rep, fun f H1 kp rep1 la =>
    ⟨ι, vs, M, _, ⟨hr.sl.mono (List.prefix_refl _) kp, rep1⟩, .inr ⟨params, body, scope, ps, fr, js, k, c, f, rfl, la, O, rfl⟩, by
      have o : Out (kf X) W (ARs X vs) ι vs σ H Q ((r vs M).bind fun as M2 => .ok (.clo (k + 1) (lamF ps.length js vs c) :: as) M2) := o
      cases q : (r vs M).bind fun as M2 => R.ok (.clo (k + 1) (lamF ps.length js vs c) :: as) M2 with
      | ok a M' => rw [q] at o; exact fun ι' H' b h1 h2 h3 h4 => o ι' H' b h1 (kp.trans h2) h3 h4
      | exc x fs M' => rw [q] at o; exact fun ι' H' C d h1 h2 h3 h4 => o ι' H' C d h1 (kp.trans h2) h3 h4
      | bad => rw [q] at o; exact o⟩⟩) fun σ H Q Q' ⟨ι, M, rep, h⟩ q => ⟨ι, M, rep, fun f H1 a b d => q _ _ (h f H1 a b d)⟩
/-- a state with the cells frozen, for a callee -/
theorem env0_fz {pins : List (Addr × Obj)} {σ : L2.St} {H : Hp} {s : Shared} (B : Bd X W k) (I : Inv X pins σ H s) : Env0 X.prog X.w X.K X.mg X.base X.A X.stack s (rf (cellsOf X) (frzOf s.heap) H) := by
  have e0 := I.env0
  refine ⟨e0.frames, e0.mod, fun b o e => ⟨(e0.bs b o e).1, ?_⟩, e0.bsz, e0.funs, fun b hb => ?_, HOk.rf e0.hok (cells_none I) (cells_frz I), e0.bare⟩
  · refine (rf_out fun hm => ?_).trans (e0.bs b o e).2
    obtain ⟨y, q⟩ := cells_ex hm
    have := (B.cb I.ok y b q).1
    rw [e] at this; cases this
  · refine (rf_out fun hm => ?_).trans (e0.frf b hb)
    obtain ⟨y, q⟩ := cells_ex hm
    exact (B.cb I.ok y b q).2 hb
theorem ARs.svr {pins : List (Addr × Obj)} {σ : L2.St} {H : Hp} {s : Shared} {ι : List Addr} {vs : Loc} {M : AH} {svs : List SV} {ws : List V} (I : Inv X pins σ H s) (hr : Rel (kf X) ι vs M σ H) (h : ARs X vs ι H svs ws) :
    Paired (SVR (kf X) ι (rf (cellsOf X) (frzOf s.heap) H)) svs ws := Paired.mapP h fun sv w q => by
  rcases q with q | ⟨params, body, scope, ps, fr, js, k, c, f, rfl, la, O, rfl⟩
  · exact q.mono (List.prefix_refl _) (rf_keep (cells_none I))
  · exact clo_svr I hr la O.L O.hjs O.hjl O.hbind O.hbody
theorem outF_fz {pins : List (Addr × Obj)} {σ : L2.St} {H : Hp} {s : Shared} {ι : List Addr} {vs : Loc} {M : AH} {Q : VK} {q : R AV} (I : Inv X pins σ H s) (hr : Rel (kf X) ι vs M σ H) (o : Out (kf X) W (VR (kf X)) ι vs σ H Q q) :
    OutF (kf X) ι (rf (cellsOf X) (frzOf s.heap) H) (fun v H' => Q v (unf (cellsOf X) H')) (fun cls d H' => WE W σ cls d (unf (cellsOf X) H')) q := by
  have cN := cells_none I
  have cF := cells_frz I
  have fz : ∀ {H'}, Keep (rf (cellsOf X) (frzOf s.heap) H) H' → Fz (cellsOf X) H' := fun {H'} h2 c hc => let ⟨o, e1, _⟩ := cF c hc; ⟨o, h2.frz _ _ _ ((rf_in hc).trans e1)⟩
  have out : ∀ {a u}, H a = some u → a ∉ cellsOf X := fun {a u} e hm => by rw [cN a hm] at e; cases e
  have kp : ∀ {H'}, Keep (rf (cellsOf X) (frzOf s.heap) H) H' → Keep H (unf (cellsOf X) H') := fun {H'} h2 =>
    ⟨fun a xs e => (rf_out (out e)).trans (h2.tup _ _ ((rf_out (out e)).trans e)), fun a o u e => (rf_out (out e)).trans (h2.frz _ _ _ ((rf_out (out e)).trans e))⟩
  cases q with
  | ok a M' => exact fun ι' H' v h1 h2 h3 h4 => o ι' _ v h1 (kp h2) ⟨hr.sl.mono h1 (kp h2), h3.unf (fz h2)⟩ (h4.monoS (List.prefix_refl _) (fz h2).sq)
  | exc x fs M' =>
    refine fun ι' H' C d h1 h2 h3 h4 => o ι' _ C d h1 (kp h2) ⟨hr.sl.mono h1 (kp h2), h3.unf (fz h2)⟩ ⟨h4.1, ?_⟩
    have h5 := h4.2
    cases d with
    | none => exact h5
    | some d =>
      obtain ⟨gs, g1, g2, g3⟩ := h5
      exact ⟨gs, (rf_out ((fz h2).out g1 fun _ z => by cases z)).trans g1, g2, g3.monoS (List.prefix_refl _) (fz h2).sq⟩
  | bad => exact o
/-- a def called with closures among its arguments -/
theorem ev_callX (B : Bd X W k) (hk : Kn (kf X) k x n F) (hg : Gl X x) (ha : EvX X W (e :: es) r) (hdb : (x == ("__debug__" : Str)) = false := by decide +kernel)
    (he : starEach (e :: es) X.env = (false, eval e X.env) :: starEach es X.env := by rfl) (hpl : (backTo pos (starEach es X.env)).any (·.1) = false := by rfl) : EvE X W (.Call (.Name x p) (e :: es) [] pos) (callX n F r) := by
  obtain ⟨f, fd, ps, h1, h2, h3, h4⟩ := hk.ex
  refine ⟨fun pins s σ H Q I ⟨ι, vs, M, hr, o⟩ => ?_⟩
  refine wpAny_Call_Name_kw (ld_glob I hg h1 ?_ hdb)
  have hq : rdX X W r σ H fun ws H1 => ∃ ι1 svs M1, Rel (kf X) ι1 vs M1 σ H1 ∧ ARs X vs ι1 H1 svs ws ∧ Out (kf X) W (VR (kf X)) ι1 vs σ H1 Q (if svs.length = n then F svs M1 else .bad) :=
    ⟨ι, vs, M, hr, (Out.bind o).imp fun _ _ _ _ _ _ _ _ _ ⟨ι1, a, M1, g1, g2, g3, g4, g5⟩ => ⟨ι1, a, M1, g3, g4, g5⟩⟩
  refine PySem.W.callWith_K (h₀ := X.base) I.ok.mod.kin h2 (thn (ha.run pos pins s σ H _ I hq) fun us s1 ⟨ws, H1, I1, r1, ι1, svs, M1, g3, g4, g5⟩ => ⟨I1.kIn, ?_⟩) he hpl
  split at g5
  case isFalse => exact g5.elim
  rename_i hl
  have cN := cells_none I1
  have cF := cells_frz I1
  have hsp : spF (kf X) n F ws (rf (cellsOf X) (frzOf s1.heap) H1) (fun v H' => Q v (unf (cellsOf X) H')) (fun cls d H' => WE W σ cls d (unf (cellsOf X) H')) :=
    ⟨(Paired.length g4).symm.trans hl, ι1, M1, svs, g3.rep.rf cN, ARs.svr I1 g3 g4, outF_fz I1 g3 g5⟩
  have hpl' : us.length = ps.length := by rw [← r1.length]; exact h3.len _ _ _ _ hsp
  have b := h4 s1 us I1.kIn (by rw [List.append_nil]; exact hpl')
  rw [List.append_nil] at b
  refine wpAny_call (codeAny_mono (h3.run X.A X.stack s1 _ ⟨us, []⟩ us ws _ _ B.room B.gd (env0_fz B I1) b r1 hsp) fun rr s' hq => ?_)
  cases rr with
  | error e => exact passAt B.tk σ pins H1 s1 e s' I1 (cx_thaw cN cF hq)
  | ok fl =>
    cases fl with
    | ret u =>
      obtain ⟨v, H', os, bare, un, hok, rv, q⟩ := hq
      have fz : Fz (cellsOf X) H' := fun c hc => let ⟨o, e1, _⟩ := cF c hc; ⟨o, un.frzs c o _ ((rf_in hc).trans e1)⟩
      exact ⟨v, unf (cellsOf X) H', Inv.call' (ch := []) I1 os (Un.thaw un hok cN cF) (HOk.unf hok fz) bare (fun b z => absurd z (by simp)), rv, q⟩
    | next => exact False.elim hq
    | brk => exact False.elim hq
    | cont => exact False.elim hq
theorem clo_at {pins : List (Addr × Obj)} {σ : L2.St} {H : Hp} {s : Shared} {f : Addr} (I : Inv X pins σ H s) (h : CloAt (kf X) H f) : PySem.W.FnAt f s.heap := by
  rcases h with ⟨oc, od, fd, sl, u, q⟩ | ⟨oc, od, fd, sl, q⟩
  · exact ⟨oc, od, fd, sl, (I.hok f _ q).1⟩
  · exact ⟨oc, od, fd, sl, I.kIn _ _ q⟩
/-- a slot's closure is called -/
theorem ev_clo {ra : CA} (i : Nat) (B : Be X W k) (ha : EvA X W (e :: es) ra) (hN : X.N[i]? = some x := by rfl) (hv : Vis X.env.scope x := by first | exact Or.inl rfl | exact Or.inr (Or.inl rfl) | exact Or.inr (Or.inr rfl)) (hd : (x == ("__debug__" : Str)) = false := by decide +kernel)
    (hcd : (x == ("__classdict__" : Str)) = false := by decide +kernel) (he : starEach (e :: es) X.env = (false, eval e X.env) :: starEach es X.env := by rfl) (hpl : (backTo pos (starEach es X.env)).any (·.1) = false := by rfl) :
    EvE X W (.Call (.Name x p) (e :: es) [] pos) (cloC k i ra) := by
  refine ⟨fun pins s σ H Q I ⟨ι, vs, M, hr, o⟩ => ?_⟩
  unfold cloC at o
  split at o
  case h_2 => exact o.elim
  rename_i kk F ev
  split at o
  case isFalse => exact o.elim
  rename_i hle
  obtain ⟨v, e1, f, rfl, cat, cok⟩ := hr.sl.at_ i _ ev
  refine wpAny_Call_Name_kw (thn ((pe_var (pos := p) (i := i) hN hv hd hcd).run pins s σ H (fun v H1 => v = .ref f ∧ H1 = H) I ⟨.ref f, e1, rfl, rfl⟩) fun u s1 ⟨v, H1, I1, rv, ev1, eH⟩ => ?_)
  subst ev1 eH
  obtain rfl : u = Value.ref f := rv
  have hq : rdA (kf X) W ra σ H1 fun ws H2 => ∃ ι1 as M1, ι <+: ι1 ∧ Keep H1 H2 ∧ Rel (kf X) ι1 vs M1 σ H2 ∧ VRs (kf X) ι1 H2 as ws ∧ Out (kf X) W (VR (kf X)) ι1 vs σ H2 Q (F as M1) :=
    ⟨ι, vs, M, hr, (Out.bind o).imp fun _ _ _ _ _ _ _ _ _ ⟨ι1, a, M1, g1, g2, g3, g4, g5⟩ => ⟨ι1, a, M1, g1, g2, g3, g4, g5⟩⟩
  refine PySem.W.callWith_F (clo_at I1 cat) (thn (ha.run pos pins s1 σ H1 _ I1 hq) fun us s2 ⟨ws, H2, I2, r2, ι1, as, M1, g1, g2, g3, g4, g5⟩ => ⟨?_, ?_⟩) he hpl
  · exact clo_at I2 (cat.imp (fun ⟨oc, od, fd, sl, u, q⟩ => ⟨oc, od, fd, sl, u, g2.frz _ _ _ q⟩) id)
  · refine wpAny_call (codeAny_mono (cok X.A X.stack s2 H2 ι1 M1 as us ws Q (WE W σ) (B.room.mono hle) B.gd I2.env0 g1 g2 g3.rep g4 r2 (OutF.ofOut g3.sl (fun _ _ _ => Iff.rfl) g5)) fun rr s' hq => ?_)
    cases rr with
    | error e => exact passAt B.tk σ pins H2 s2 e s' I2 hq
    | ok fl =>
      cases fl with
      | ret u => exact I2.after hq
      | next => exact False.elim hq
      | brk => exact False.elim hq
      | cont => exact False.elim hq
end
end AM
end

section
set_option Elab.async false
set_option linter.all false
set_option autoImplicit false
set_option maxRecDepth 100000
set_option maxHeartbeats 4000000
/-! AM 13: exceptions. -/
namespace AM
open PySem PySem.Spec L2

/-! ### own classes with one field, raised -/
/-- self.f = p -/
def spI (C : Addr) (f : Str) : Sp := fun vs H Q _ => ∃ (a : Addr) (v : V), vs = [.ref a, v] ∧ H a = some (exo a C none) ∧ ∀ dx, H dx = none → dx ≠ a → Q .non (upd (upd H dx (exd dx [(f, v)])) a (exo a C (some dx)))
structure ExCls (κ : Cfg) (k : Nat) (x f : Str) : Prop where
  ex : ∃ (C fI : Addr) (fd : FuncData) (ps : List Str), κ.mg x = some (.ref C) ∧ OexC κ.K C ∧ PySem.W.findIn κ.K (.ref C) "__init__" = some (some (.ref fI)) ∧ PySem.W.typeIn κ.K (.ref fI) = some (.type "function") ∧
    FnOk κ.P κ.w κ.K κ.mg κ.base (L2.CX κ.P κ.w) k fI fd ps (spI C f) ∧ Binds κ.K fd ps []
section
variable {P : Program} {w : World} {K : PySem.W.Frag} {mg : Str → Option Value} {base : Heap} {qual : Str} {params : Arguments} {scope : Scope} {C f : Addr} {fd : FuncData} {fld p : Str} {q1 q2 q3 q4 : Pos}
theorem init_ok (F : FunD K "__init__" qual params [.Assign [.Attribute (.Name "self" q1) fld q2] (.Name p q3) q4] scope [] [] f fd) (S : FnScope ["self", p] ["self", p] scope) (T : OexC K C) (hno : PySem.W.findIn K (.ref C) fld = some none)
    (v1 : Vis scope "self") (v2 : Vis scope p) (hp1 : (p == ("__debug__" : Str)) = false) (hp2 : (p == ("__classdict__" : Str)) = false) : FnOk P w K mg base (L2.CX P w) 1 f fd ["self", p] (spI C fld) := by
  refine F.ok S (fun vs H Q E ⟨a, v, e, _⟩ => by rw [e]; rfl) fun cdv A outer s H vs Q E hr ⟨a, v, e, ha, q⟩ => ?_
  subst e
  refine ⟨_, pss_one (ps_ost (pe_var (i := 0) (x := "self") rfl v1) (pe_var (i := 1) (x := p) rfl v2 hp1 hp2)), ?_⟩
  exact ⟨v, rfl, .ref a, rfl, a, C, rfl, T, hno, .inl ⟨ha, q⟩⟩
end
def raiseC (x f : Str) (c : CE) : CS := fun vs M => thenS (c vs M) vs fun a M1 => .exc x [(f, a)] vs M1
section
variable [Tb] {X : Cx} {W : WX} {e : Expr} {pos p pos2 : Pos} {c : CE} {x f : Str} {k : Nat}
theorem es_raise (B : Bd X W (k + 1)) (E1 : ExCls (kf X) k x f) (hg : Gl X x) (he : EvE X W e c) (hdb : (x == ("__debug__" : Str)) = false := by decide +kernel) (hs : starEach (e :: []) X.env = (false, eval e X.env) :: starEach [] X.env := by rfl) (hpl : (backTo pos (starEach [] X.env)).any (·.1) = false := by rfl) :
    EvS X W (.Raise (some (.Call (.Name x p) [e] [] pos)) none pos2) (raiseC x f c) := by
  obtain ⟨C, fI, fd, ps, h1, h2, h3, h4, h5, h6⟩ := E1.ex
  refine PS.imp (ps_raise B.calm B.tk (pmk_oex h2 h3 h4 h5 B.room h6 .nil (passes_call B.tk fun _ _ _ _ z => z.elim) hg h1 (pa_cons he pa_nil hs) hdb hs hpl)) fun D σ H ⟨ι, vs, M, hr, o⟩ => ?_
  refine OutS.run (k := fun a M1 => .exc x [(f, a)] vs M1) hr o fun ι1 a M1 v H1 g1 g2 g3 g4 g5 => ?_
  refine ⟨by simp, fun q hq => ⟨q, v, rfl, upd_same, fun dx hdx hne => ⟨rfl, dx, [(f, v)], ?_, ?_, ?_, ?_⟩⟩⟩
  · exact upd_same
  · rw [upd_ne hne, upd_same]
  · rw [upd_ne hne] at hdx; exact hdx
  · have hdx' : H1 dx = none := by rw [upd_ne hne] at hdx; exact hdx
    have eH : upd (L2.del (upd (upd (upd H1 q (exo q C none)) dx (exd dx [(f, v)])) q (exo q C (some dx))) q) dx (.xd [(f, v)]) = upd H1 dx (.xd [(f, v)]) := by
      funext b
      by_cases hb : b = dx
      · rw [hb, upd_same, upd_same]
      · rw [upd_ne hb, upd_ne hb]
        by_cases hq2 : b = q
        · rw [hq2, L2.del_same, hq]
        · rw [L2.del_ne hq2, upd_ne hq2, upd_ne hb, upd_ne hq2]
    rw [eH]
    have kp : Keep H1 (upd H1 dx (.xd [(f, v)])) := Keep.new hdx'
    exact g5 ι1 _ σ C (some dx) (List.prefix_refl _) kp (g3.other hdx') ⟨h1, [(f, v)], upd_same, rfl, (VRs.cons g4 .nil).mono (List.prefix_refl _) kp⟩
end

/-! ### try .. except -/
/-- a clause: the class, the name's slot, the suite -/
def endsAt (i : Option Nat) (D : Ends) : Ends := match i with
  | some j => { nx := fun σ H => D.nx (σ.set j none) H, rt := D.rt, bk := fun σ H => D.bk (σ.set j none) H, ct := fun σ H => D.ct (σ.set j none) H }
  | none => D
def slotAt (i : Option Nat) (v : V) (σ : L2.St) : L2.St := match i with
  | some j => σ.set j (some v)
  | none => σ
/-- the exception is known from now on -/
def Held (H : Hp) (a : Addr) (oe : Obj) (d : Option Addr) (H2 : Hp) : Prop := H a = none ∧ (∃ vs, oe.data = .fields vs) ∧ oe.dict = d ∧
  ((d = none ∧ H2 = upd H a (.frz oe (.own 1))) ∨ ∃ dd gs od, d = some dd ∧ dd ≠ a ∧ H dd = some (.xd gs) ∧ H2 = upd (upd H dd (.frz od (.xd gs))) a (.frz oe (.own 1)))
def wHd (K : PySem.W.Frag) (Wout : WX) (D : Ends) : List (Value × Option Nat × TS) → WX
  | [] => Wout
  | (c, i, ts) :: r => fun cls d σ H => ∃ b, PySem.W.exmOne K cls c = some b ∧ (b = true → (∀ dd, d = some dd → ∃ gs, H dd = some (.xd gs)) ∧ ∀ a oe H2, oe.cls = cls → Held H a oe d H2 → ts (endsAt i D) (slotAt i (.ref a) σ) H2) ∧ (b = false → wHd K Wout D r cls d σ H)
inductive HdA (X : Cx) : List ExceptHandler → List (Value × Option Nat × TS) → Prop
  | nil : HdA X [] []
  | as_ {x n : Str} {c : Value} {i : Nat} {ts : TS} {b₀ : Stmt} {suite : List Stmt} {np pos' : Pos} {hds : List ExceptHandler} {l : List (Value × Option Nat × TS)} (hc : Names X x c) (hi : X.N[i]? = some n) (hln : X.env.kindOf n = some .local)
      (hsu : ∀ (a : Addr) (pn : List (Addr × Obj)), PSs (X.suite a pn) (b₀ :: suite) ts) (r : HdA X hds l) : HdA X (.ExceptHandler (some (.Name x np)) (some n) (b₀ :: suite) pos' :: hds) ((c, some i, ts) :: l)
  | no {x : Str} {c : Value} {ts : TS} {b₀ : Stmt} {suite : List Stmt} {np pos' : Pos} {hds : List ExceptHandler} {l : List (Value × Option Nat × TS)} (hc : Names X x c)
      (hsu : ∀ (a : Addr) (pn : List (Addr × Obj)), PSs (X.suite a pn) (b₀ :: suite) ts) (r : HdA X hds l) : HdA X (.ExceptHandler (some (.Name x np)) none (b₀ :: suite) pos' :: hds) ((c, none, ts) :: l)
section
variable {X : Cx} {pins : List (Addr × Obj)} {σ : L2.St} {H H2 : Hp} {s : Shared}
/-- the exception's object (and its dict) are held from now on -/
theorem inv_held {a : Addr} {oe : Obj} {d : Option Addr} (I : Inv X pins σ H s) (n0 : X.s_0.heap.get? a = none) (ha : s.heap.get? a = some oe) (nL : a ≠ X.env.locals) (nC : ∀ x c, X.env.cells.lookup x = some c → c ≠ a) (nP : ∀ p ∈ X.pn ++ pins, p.1 ≠ a) (nF : a ∉ X.fs)
    (hd : Held H a oe d H2) (hod : ∀ dd gs, d = some dd → H dd = some (.xd gs) → ∀ od u, H2 dd = some (.frz od u) → s.heap.get? dd = some od) : Inv X pins σ H2 s := by
  obtain ⟨hn, hv, hdt, hh⟩ := hd
  have key : (∀ b, b ≠ a → H b = none → H2 b = none) ∧ (∀ b u, H b = some u → (∀ gs, u ≠ .xd gs) → H2 b = some u) ∧ HOk X.prog X.w H2 s.heap := by
    rcases hh with ⟨e1, rfl⟩ | ⟨dd, gs, od, e1, nda, e2, rfl⟩
    · refine ⟨fun b hb n => by rw [upd_ne hb]; exact n, fun b u e _ => by rw [upd_ne (ne_of_none e hn)]; exact e, fun b u e => ?_⟩
      by_cases hb : b = a
      · subst hb; rw [upd_same] at e; cases e
        exact ⟨ha, oe, ha⟩
      · rw [upd_ne hb] at e
        exact (I.hok b u e).stay (fun _ _ _ q => q) (fun c q => by rw [upd_ne (ne_of_none q hn)]; exact q) (fun c xs q => by rw [upd_ne (ne_of_none q hn)]; exact q)
    · have at_ : ∀ b u, H b = some u → (∀ gs, u ≠ .xd gs) → upd (upd H dd (.frz od (.xd gs))) a (.frz oe (.own 1)) b = some u := fun b u e n => by
        rw [upd_ne (ne_of_none e hn), upd_ne (fun z => n gs (Option.some.inj (e.symm.trans (by rw [z]; exact e2))))]; exact e
      refine ⟨fun b hb n => by rw [upd_ne hb, upd_ne (ne_of_none e2 n).symm]; exact n, at_, fun b u e => ?_⟩
      by_cases hb : b = a
      · subst hb; rw [upd_same] at e; cases e
        exact ⟨ha, oe, ha⟩
      · rw [upd_ne hb] at e
        by_cases hb2 : b = dd
        · subst hb2; rw [upd_same] at e; cases e
          refine ⟨hod b gs e1 e2 od (.xd gs) (by rw [upd_ne nda, upd_same]), ?_⟩
          exact (I.hok b _ e2).stay (fun _ _ _ q => q) (fun c q => at_ c _ q fun _ z => by cases z) (fun c xs q => at_ c _ q fun _ z => by cases z)
        · rw [upd_ne hb2] at e
          exact (I.hok b u e).stay (fun _ _ _ q => q) (fun c q => at_ c _ q fun _ z => by cases z) (fun c xs q => at_ c _ q fun _ z => by cases z)
  obtain ⟨k1, k2, k3⟩ := key
  refine ⟨I.ok, I.os, I.bare, ⟨I.base.keep, I.base.slot, fun b o e n hx => ?_, I.base.there, fun b xs e => k2 b _ (I.base.tups b xs e) (fun _ z => by cases z), fun b o u e => k2 b _ (I.base.frzs b o u e) (fun _ z => by cases z), fun b ps e => ?_⟩, I.loc, I.cell, k1 _ nL.symm I.free, fun x c e => k1 _ (nC x c e) (I.freeC x c e), fun p hp => ?_, k3, I.len⟩
  · exact k1 b (fun z => by rw [z, n0] at e; cases e) (I.base.free b o e n hx)
  · obtain ⟨more, q⟩ := I.base.tbls b ps e
    exact ⟨more, k2 b _ q fun _ z => by cases z⟩
  · obtain ⟨q1, q2, q3, q4, q5⟩ := I.pin p hp
    exact ⟨q1, k1 _ (nP p hp) q2, q3, q4, q5⟩
theorem inv_suite (I : Inv X pins σ H s) (a : Addr) : Inv (X.suite a (X.pn ++ pins)) [] σ H s :=
  ⟨I.ok.suite _ _, I.os, I.bare, I.base, I.loc, I.cell, I.free, I.freeC, fun p hp => I.pin p (by rw [List.append_nil] at hp; exact hp), I.hok, I.len⟩
theorem inv_unsuite {a : Addr} {pn' : List (Addr × Obj)} (I : Inv (X.suite a (X.pn ++ pins)) pn' σ H s) (ok : X.Ok) : Inv X pins σ H s :=
  ⟨ok, I.os, I.bare, I.base, I.loc, I.cell, I.free, I.freeC, fun p hp => I.pin p (List.mem_append_left _ hp), I.hok, I.len⟩
theorem held_of (I : Inv X pins σ H s) {a : Addr} {oe : Obj} {d : Option Addr} (hn : H a = none) (hv : ∃ vs, oe.data = .fields vs) (hd : oe.dict = d) (hx : ∀ dd, d = some dd → ∃ gs, H dd = some (.xd gs)) :
    ∃ H2, Held H a oe d H2 ∧ ∀ dd gs, d = some dd → H dd = some (.xd gs) → ∀ od u, H2 dd = some (.frz od u) → s.heap.get? dd = some od := by
  cases d with
  | none => exact ⟨_, ⟨hn, hv, hd, .inl ⟨rfl, rfl⟩⟩, fun dd gs e => by cases e⟩
  | some dd =>
    obtain ⟨gs, e⟩ := hx dd rfl
    obtain ⟨od, ho⟩ := objOk_get (I.hok dd _ e)
    have nda : dd ≠ a := ne_of_none e hn
    refine ⟨_, ⟨hn, hv, hd, .inr ⟨dd, gs, od, rfl, nda, e, rfl⟩⟩, fun d2 gs' e1 e2 od' u q => ?_⟩
    cases e1
    rw [upd_ne nda, upd_same] at q
    cases q
    exact ho
end
section
variable {X : Cx} {body : List Stmt} {h₀ : ExceptHandler} {hds : List ExceptHandler} {l : List (Value × Option Nat × TS)} {pos : Pos} {tb : WX → TS} {Wout : WX}
theorem ps_tryA (hex : X.ex = []) (hs : X.stack = X.env :: X.outer) (hf : X.env.frame = some X.env.locals) (hN : X.N.Nodup) (tk : Takes X Wout)
    (hb : ∀ (W : WX) (pn : List (Addr × Obj)) (xe : Value → Shared → Prop), Takes (X.tr pn xe) W → PassesOwn (model X.prog X.w) X.A X.env xe → PSs (X.tr pn xe) body (tb W))
    (hh : HdA X (h₀ :: hds) l) : PS X (.Try body (h₀ :: hds) [] [] pos) (fun D σ H => tb (wHd X.K Wout D l) D σ H) := by
  refine ⟨fun pins s σ H D I h => ?_⟩
  have ok := I.ok
  have hfr : X.A.frames = some (X.env :: X.outer) := by rw [ok.frames, hs]
  refine wpAny_Try_except ?_
  refine wpAny_mono ((hb (wHd X.K Wout D l) (X.pn ++ pins) (fun e s₁ => wpAny (model X.prog X.w) X.A (noteFrame e X.env) (fun _ s₂ => wpAny (model X.prog X.w) X.A (setFlight e none) (fun _ s₃ =>
    wpAny (model X.prog X.w) X.A (handleBy e X.env (h₀ :: hds)) (SP X pins D) X.xe s₃) X.xe s₂) X.xe s₁) (fun u s' xx => ?_) PassesOwn.looking).run [] s σ H D (I.toTry _) h) (fun f s1 hsp => ?_) (fun e s1 he => he)
  · -- the catch
    obtain ⟨a, B, sI, pins', σ', H', cls, d, rfl, J', nb, up, sky, na, os, ag, w⟩ := xx
    have J : Inv X pins σ' H' sI := J'.ofTry ok
    have sky' : Sky B (X.env :: X.outer) a (Zc cls d) X.env.locals s'.heap := by rw [← hs]; exact sky
    show wpAny (model X.prog X.w) X.A (noteFrame (.ref a) X.env) _ _ _
    refine Sky.land Zc.steady hfr hf sky' fun h3 fl3 up3 => ?_
    have J3 : Inv X pins σ' H' { s' with heap := h3 } := J.landed nb fl3.1 (up.trans up3) os ag
    obtain ⟨oe3, vs3, he3, hz3, hd3⟩ := fl3.there
    have notFr : ∀ {h : Heap} {o : Obj} {vs : Array Value}, h.FunFrames B (X.env :: X.outer) → h.get? a = some o → o.data = .fields vs → a ∉ frs (X.env :: X.outer) := fun {h o vs} ff e dd hm => by
      obtain ⟨_, o', e', hnf⟩ := ff.mem hm
      rw [e] at e'; cases e'
      exact hnf _ dd
    have nfr := notFr fl3.2.2.1 he3 hd3
    have nL : a ≠ X.env.locals := fun z => nfr (List.mem_filterMap.mpr ⟨X.env, List.mem_cons_self, by rw [hf, z]⟩)
    have nF : a ∉ X.fs := fun hm => by
      obtain ⟨e, he, q⟩ := List.mem_filterMap.mp hm
      exact nfr (List.mem_filterMap.mpr ⟨e, List.mem_cons_of_mem _ he, q⟩)
    have nI : sI.heap.get? a = none := by
      cases q : sI.heap.get? a with
      | none => rfl
      | some o =>
        have := nb a o q (by rw [hs]; exact nfr)
        rw [fl3.2.1] at this; cases this
    have n0 : X.s_0.heap.get? a = none := by
      cases q : X.s_0.heap.get? a with
      | none => rfl
      | some o =>
        obtain ⟨o', q'⟩ := J.base.there a o q (by rw [hex]; simp)
        rw [nI] at q'; cases q'
    have nP : ∀ p ∈ X.pn ++ pins, p.1 ≠ a := fun p hp z => by
      have := (J.pin p hp).1
      rw [z, nI] at this; cases this
    have nC : ∀ x c, X.env.cells.lookup x = some c → c ≠ a := fun x c e z => by
      obtain ⟨v, o, ho, _⟩ := J.cell x c e
      rw [z, nI] at ho; cases ho
    have S3 := J3.suite he3 hd3 na nL nF
    have go : ∀ {hds' : List ExceptHandler} {l' : List (Value × Option Nat × TS)}, HdA X hds' l' → wHd X.K Wout D l' cls d σ' H' →
        wpAny (model X.prog X.w) X.A (handleBy (.ref a) X.env hds') (SP X pins D) X.xe { s' with heap := h3 } := by
      intro hds' l' hk
      induction hk with
      | nil =>
        intro w
        refine wpAny_handleBy_nil ?_
        obtain ⟨k1, k2, k3, oe, vs, T, oT, ts', he, hz, hd, h1, hr⟩ := id fl3
        unfold PySem.passOn
        refine wpAny_bind (wpAny_field he hd h1 ?_)
        rw [if_neg (show ¬ ((Value.ref T == Value.none) = true) from by simp)]
        have fin : wpAny (model X.prog X.w) X.A (setFlight (.ref a) X.env.frame) (fun _ s4 => wpAny (model X.prog X.w) X.A (throw (.ref a) : Sem Flow) (SP X pins D) X.xe s4) X.xe { s' with heap := h3 } := by
          rw [hf]
          refine HandSPX.setFlight_upZ fl3 fun h4 hh4 up4 => wpAny_throw (tk _ _ ?_)
          exact ⟨a, B, sI, pins, σ', H', cls, d, rfl, J, nb, (up.trans up3).trans up4, .inr (.inr (by rw [hs]; exact hh4)), na, os, ag, w⟩
        first
          | exact wpAny_bind (wpAny_pure (wpAny_bind fin))
          | exact wpAny_bind fin
      | @as_ x n c i ts b₀ suite np pos' hds2 l2 hc hi hln hsu r ih =>
        intro w
        obtain ⟨b, hb1, hyes, hno⟩ := w
        refine wpAny_handleBy_cons (codeAny_handlers_test ?_) (by intro q; cases q)
        have LT : PySem.W.Looks (model X.prog X.w) h3 (typeOf (.ref a)) cls := fun A Q E s k q => wpAny_typeOf_ref (k _ _ he3) (by rw [hz3.1]; exact q)
        have LM := PySem.W.exm_one (M := model X.prog X.w) (J3.kIn) LT hb1
        have test : ∀ {Q : Value → Shared → Prop} {E : Value → Shared → Prop}, Q c { s' with heap := h3 } → wpAny (model X.prog X.w) (X.A.mark (some (.ref a))) (eval (.Name x np) X.env) Q E { s' with heap := h3 } := fun {Q E} q => by
          obtain ⟨hg, hdbg, hm | ⟨hm, hv, hnn⟩⟩ := hc
          · exact ld_glob (X := X.suite a ((a, oe3) :: (X.pn ++ pins))) S3 hg hm q hdbg
          · exact ld_blt (X := X.suite a ((a, oe3) :: (X.pn ++ pins))) S3 hg hm hv q hnn hdbg
        refine test (LM.here ?_)
        cases b with
        | true =>
          refine codeAny_handlers_suite_as ?_
          refine HandSPX.lands_againZ fl3 fun h4 fl4 up4 => ?_
          have J4 : Inv X pins σ' H' { s' with heap := h4 } := J.landed nb fl4.1 ((up.trans up3).trans up4) os ag
          obtain ⟨oe4, vs4, he4, hz4, hd4⟩ := fl4.there
          obtain ⟨hxd, hts⟩ := hyes rfl
          obtain ⟨H2, hH, hod⟩ := held_of J4 na ⟨_, hd4⟩ hz4.2 hxd
          have J5 := inv_held J4 n0 he4 nL nC nP nF hH hod
          have S4 := inv_suite J5 a
          refine store_ok (X := X.suite a (X.pn ++ pins)) (v := .ref a) S4 hN hi (.inl hln) rfl (fun s5 S5 => ?_) (.inr hln)
          refine wpAny_mono ((hsu a (X.pn ++ pins)).run [] s5 _ H2 _ S5 (hts a oe4 H2 hz4.1 hH)) (fun f s6 hsp => ?_) (fun _ _ z => False.elim z)
          have end_ : ∀ {σ6 : L2.St} {H6 : Hp} {Q : Shared → Prop}, Inv (X.suite a (X.pn ++ pins)) [] σ6 H6 s6 → (∀ s7, Inv X pins (σ6.set i none) H6 s7 → Q s7) →
              wpAny (model X.prog X.w) X.A (do bindName X.env n .none; unbindBehindTheSuite X.env n pos') (fun _ s7 => Q s7) X.xe s6 := fun {σ6 H6 Q} S6 hq => gone_ok (inv_unsuite S6 ok) hN hi hln hq
          cases f with
          | next =>
            obtain ⟨σ6, H6, S6, q6⟩ := hsp
            exact end_ S6 fun s7 J7 => ⟨_, _, J7, q6⟩
          | brk =>
            obtain ⟨σ6, H6, S6, q6⟩ := hsp
            exact end_ S6 fun s7 J7 => ⟨_, _, J7, q6⟩
          | cont =>
            obtain ⟨σ6, H6, S6, q6⟩ := hsp
            exact end_ S6 fun s7 J7 => ⟨_, _, J7, q6⟩
          | ret u =>
            obtain ⟨v6, σ6, H6, S6, r6, q6⟩ := hsp
            exact end_ S6 fun s7 J7 => ⟨_, _, _, J7, r6, q6⟩
        | false =>
          show wpAny _ X.A (handleBy (.ref a) X.env hds2) _ _ _
          exact ih (hno rfl)
      | @no x c ts b₀ suite np pos' hds2 l2 hc hsu r ih =>
        intro w
        obtain ⟨b, hb1, hyes, hno⟩ := w
        refine wpAny_handleBy_cons (codeAny_handlers_test ?_) (by intro q; cases q)
        have LT : PySem.W.Looks (model X.prog X.w) h3 (typeOf (.ref a)) cls := fun A Q E s k q => wpAny_typeOf_ref (k _ _ he3) (by rw [hz3.1]; exact q)
        have LM := PySem.W.exm_one (M := model X.prog X.w) (J3.kIn) LT hb1
        have test : ∀ {Q : Value → Shared → Prop} {E : Value → Shared → Prop}, Q c { s' with heap := h3 } → wpAny (model X.prog X.w) (X.A.mark (some (.ref a))) (eval (.Name x np) X.env) Q E { s' with heap := h3 } := fun {Q E} q => by
          obtain ⟨hg, hdbg, hm | ⟨hm, hv, hnn⟩⟩ := hc
          · exact ld_glob (X := X.suite a ((a, oe3) :: (X.pn ++ pins))) S3 hg hm q hdbg
          · exact ld_blt (X := X.suite a ((a, oe3) :: (X.pn ++ pins))) S3 hg hm hv q hnn hdbg
        refine test (LM.here ?_)
        cases b with
        | true =>
          refine codeAny_handlers_suite ?_
          refine HandSPX.lands_againZ fl3 fun h4 fl4 up4 => ?_
          have J4 : Inv X pins σ' H' { s' with heap := h4 } := J.landed nb fl4.1 ((up.trans up3).trans up4) os ag
          obtain ⟨oe4, vs4, he4, hz4, hd4⟩ := fl4.there
          obtain ⟨hxd, hts⟩ := hyes rfl
          obtain ⟨H2, hH, hod⟩ := held_of J4 na ⟨_, hd4⟩ hz4.2 hxd
          have J5 := inv_held J4 n0 he4 nL nC nP nF hH hod
          have S4 := inv_suite J5 a
          refine wpAny_mono ((hsu a (X.pn ++ pins)).run [] _ _ H2 _ S4 (hts a oe4 H2 hz4.1 hH)) (fun f s6 hsp => ?_) (fun _ _ z => False.elim z)
          cases f with
          | next =>
            obtain ⟨σ6, H6, S6, q6⟩ := hsp
            exact ⟨_, _, inv_unsuite S6 ok, q6⟩
          | brk =>
            obtain ⟨σ6, H6, S6, q6⟩ := hsp
            exact ⟨_, _, inv_unsuite S6 ok, q6⟩
          | cont =>
            obtain ⟨σ6, H6, S6, q6⟩ := hsp
            exact ⟨_, _, inv_unsuite S6 ok, q6⟩
          | ret u =>
            obtain ⟨v6, σ6, H6, S6, r6, q6⟩ := hsp
            exact ⟨_, _, _, inv_unsuite S6 ok, r6, q6⟩
        | false =>
          show wpAny _ X.A (handleBy (.ref a) X.env hds2) _ _ _
          exact ih (hno rfl)
    exact go hh w
  · cases f with
    | next =>
      obtain ⟨σ', H', J', q⟩ := hsp
      exact wpAny_execs_nil ⟨σ', H', J'.ofTry ok, q⟩
    | brk =>
      obtain ⟨σ', H', J', q⟩ := hsp
      exact ⟨σ', H', J'.ofTry ok, q⟩
    | cont =>
      obtain ⟨σ', H', J', q⟩ := hsp
      exact ⟨σ', H', J'.ofTry ok, q⟩
    | ret u =>
      obtain ⟨v, σ', H', J', r, q⟩ := hsp
      exact ⟨v, σ', H', J'.ofTry ok, r, q⟩
end
end AM
end

section
set_option Elab.async false
set_option linter.all false
set_option autoImplicit false
set_option maxRecDepth 100000
set_option maxHeartbeats 4000000
/-! AM 14: try, an exception's field. -/
namespace AM
open PySem PySem.Spec L2

def hdS (i : Option Nat) (sv : SV) (vs : Loc) : Loc := match i with
  | some j => vs.set j (some sv)
  | none => vs
def clrS (i : Option Nat) (r : RS) : RS := match i with
  | some j => match r with
    | .nx vs M => .nx (vs.set j none) M
    | .bk vs M => .bk (vs.set j none) M
    | .ct vs M => .ct (vs.set j none) M
    | r => r
  | none => r
def noX (r : RS) : RS := match r with
  | .exc _ _ _ _ => .bad
  | r => r
def handC (em : Str → Str → Option Bool) (c : Str) (fs : List (Str × AV)) : List (Str × Option Nat × CS) → Loc → AH → RS
  | [], vs, M => .exc c fs vs M
  | (x, i, s) :: r, vs, M => match em c x with
    | some true => clrS i (noX (s (hdS i (.exc c fs) vs) M))
    | some false => handC em c fs r vs M
    | none => .bad
def tryC (em : Str → Str → Option Bool) (b : CS) (cl : List (Str × Option Nat × CS)) : CS := fun vs M => match b vs M with
  | .exc c fs vs1 M1 => handC em c fs cl vs1 M1
  | r => r
/-- which class a clause takes -/
def EmOk (κ : Cfg) (em : Str → Str → Option Bool) : Prop := ∀ c x b C D, em c x = some b → κ.mg c = some (.ref C) → κ.mg x = some (.ref D) → PySem.W.exmOne κ.K (.ref C) (.ref D) = some b
abbrev WF : WX := fun _ _ _ _ => False
inductive HdE [Tb] (X : Cx) : List ExceptHandler → List (Str × Option Nat × CS) → Prop
  | nil : HdE X [] []
  | as_ {x n : Str} {C : Addr} {i : Nat} {s : CS} {b₀ : Stmt} {suite : List Stmt} {np pos' : Pos} {hds : List ExceptHandler} {l : List (Str × Option Nat × CS)} (hg : Gl X x) (hdb : (x == ("__debug__" : Str)) = false) (hm : X.mg x = some (.ref C)) (hi : X.N[i]? = some n) (hln : X.env.kindOf n = some .local)
      (hsu : ∀ (a : Addr) (pn : List (Addr × Obj)), EvB (X.suite a pn) WF (b₀ :: suite) s) (r : HdE X hds l) : HdE X (.ExceptHandler (some (.Name x np)) (some n) (b₀ :: suite) pos' :: hds) ((x, some i, s) :: l)
  | no {x : Str} {C : Addr} {s : CS} {b₀ : Stmt} {suite : List Stmt} {np pos' : Pos} {hds : List ExceptHandler} {l : List (Str × Option Nat × CS)} (hg : Gl X x) (hdb : (x == ("__debug__" : Str)) = false) (hm : X.mg x = some (.ref C))
      (hsu : ∀ (a : Addr) (pn : List (Addr × Obj)), EvB (X.suite a pn) WF (b₀ :: suite) s) (r : HdE X hds l) : HdE X (.ExceptHandler (some (.Name x np)) none (b₀ :: suite) pos' :: hds) ((x, none, s) :: l)
section
variable {κ : Cfg} {ι : List Addr} {M : AH} {H H2 : Hp} {vs : Loc} {σ : L2.St} {a : Addr} {oe : Obj} {d : Option Addr}
theorem OR.nxd {o : AO} (h : OR κ ι H o a) {gs : List (Str × V)} (e : H a = some (.xd gs)) : False := by
  cases o with
  | lst xs => obtain ⟨vs, h1, h2⟩ := h; rw [e] at h1; cases h1
  | frz xs => obtain ⟨o, vs, h1, h2⟩ := h; rw [e] at h1; cases h1
  | ins c fs => obtain ⟨C, dx, gs, h0, h1, h2, h3⟩ := h; rw [e] at h1; cases h1
  | dct kvs =>
    rcases h with ⟨gs, h1, h2⟩ | ⟨ks, h1, h2, hne⟩
    · rw [e] at h1; cases h1
    · rw [e] at h1; unfold NdO at h1; cases h1
theorem Held.keep (h : Held H a oe d H2) : Keep H H2 := by
  obtain ⟨hn, _, _, ⟨e1, rfl⟩ | ⟨dd, gs, od, e1, nda, e2, rfl⟩⟩ := h
  · exact Keep.new hn
  · refine (Keep.mut (o' := .frz od (.xd gs)) e2 (fun _ z => by cases z) (fun _ _ z => by cases z)).trans (Keep.new ?_)
    rw [upd_ne (Ne.symm nda)]; exact hn
theorem Held.rep (h : Held H a oe d H2) (r : Rep κ ι M H) : Rep κ ι M H2 := by
  have k := h.keep
  have same : ∀ b u, H b = some u → (∀ gs, u ≠ .xd gs) → H2 b = some u := by
    obtain ⟨hn, _, _, ⟨e1, rfl⟩ | ⟨dd, gs, od, e1, nda, e2, rfl⟩⟩ := h
    · exact fun b u e n => by rw [upd_ne (ne_of_none e hn)]; exact e
    · exact fun b u e n => by rw [upd_ne (ne_of_none e hn), upd_ne (fun z => n gs (Option.some.inj (e.symm.trans (by rw [z]; exact e2))))]; exact e
  refine ⟨r.len, r.nd, fun i o b e eb => ?_, fun p hp => (r.tab p hp).keep k fun ps e => same _ _ e fun _ z => by cases z⟩
  have q := r.obj i o b e eb
  obtain ⟨u, h1, _⟩ := q.ntbl
  exact q.mono (List.prefix_refl _) k (by rw [h1]; exact same b u h1 fun gs z => q.nxd (z ▸ h1))
theorem Held.svr {c : Str} {fs : List (Str × AV)} {C : Addr} (h : Held H a oe d H2) (hc : oe.cls = .ref C) (x : ExR κ ι H c fs C d) : SVR κ ι H2 (.exc c fs) (.ref a) := by
  have k := h.keep
  obtain ⟨hn, hv, hd, ⟨e1, rfl⟩ | ⟨dd, gs, od, e1, nda, e2, rfl⟩⟩ := h
  · subst e1
    exact ⟨a, oe, C, rfl, upd_same, hc, hv, x.1, .inl ⟨hd, x.2⟩⟩
  · subst e1
    obtain ⟨gs', g1, g2, g3⟩ := x.2
    rw [e2] at g1; cases g1
    exact ⟨a, oe, C, rfl, upd_same, hc, hv, x.1, .inr ⟨dd, od, gs, hd, by rw [upd_ne nda, upd_same], g2, g3.mono (List.prefix_refl _) k⟩⟩
theorem OutS.clr {W : WX} {D : Ends} {r : RS} (i : Option Nat) (o : OutS κ W ι H D (clrS i (noX r))) : OutS κ WF ι H (endsAt i D) r := by
  have sl : ∀ {j : Nat} {ι' : List Addr} {vs : Loc} {M : AH} {σ' : L2.St} {H' : Hp}, Rel κ ι' vs M σ' H' → Rel κ ι' (vs.set j none) M (σ'.set j none) H' := fun {j ι' vs M σ' H'} h =>
    ⟨⟨by simp [h.sl.len], fun t sv e => by
      by_cases hj : t = j
      · subst hj
        rw [List.getElem?_set] at e
        simp at e
      · rw [List.getElem?_set_ne (Ne.symm hj)] at e ⊢
        exact h.sl.at_ t sv e⟩, h.rep⟩
  cases i with
  | none =>
    cases r with
    | exc c fs vs M => exact o.elim
    | bad => exact o
    | _ => exact o
  | some j =>
    cases r with
    | exc c fs vs M => exact o.elim
    | bad => exact o
    | rt v M => exact o
    | nx vs M => exact fun a b c d e f => o a b _ d e (sl f)
    | bk vs M => exact fun a b c d e f => o a b _ d e (sl f)
    | ct vs M => exact fun a b c d e f => o a b _ d e (sl f)
theorem hd_out {W : WX} {D : Ends} {mg : Str → Option Value} {em : Str → Str → Option Bool} {c : Str} {fs : List (Str × AV)} {C : Addr} (hem : EmOk κ em) {cl : List (Str × Option Nat × CS)} {l : List (Value × Option Nat × TS)}
    (h : Paired (fun (q : Str × Option Nat × CS) (p : Value × Option Nat × TS) => ∃ C, κ.mg q.1 = some (.ref C) ∧ p.1 = .ref C ∧ p.2.1 = q.2.1 ∧ p.2.2 = rdS κ WF q.2.2) cl l) (hr : Rel κ ι vs M σ H) (x : ExR κ ι H c fs C d)
    (o : OutS κ W ι H D (handC em c fs cl vs M)) : wHd κ.K W D l (.ref C) d σ H := by
  induction h with
  | nil => exact o ι H σ C d (List.prefix_refl _) (Keep.refl _) hr x
  | @cons q p cl l q1 t ih =>
    obtain ⟨y, i, s⟩ := q
    obtain ⟨v, i', ts⟩ := p
    obtain ⟨Cy, e1, e2, e3, e4⟩ := q1
    dsimp only at e1 e2 e3 e4
    subst e2 e3 e4
    unfold handC at o
    cases em1 : em c y with
    | none => rw [em1] at o; exact o.elim
    | some b =>
      rw [em1] at o
      refine ⟨b, hem c y b C Cy em1 x.1 e1, fun hb => ?_, fun hb => ?_⟩
      · subst hb
        refine ⟨fun dd e => ?_, fun a oe H2 hcls hh => ?_⟩
        · subst e
          obtain ⟨gs, g1, _⟩ := x.2
          exact ⟨gs, g1⟩
        · have k := hh.keep
          have hs := hh.svr hcls x
          refine ⟨ι, hdS i' (.exc c fs) vs, M, ⟨?_, hh.rep hr.rep⟩, OutS.clr i' (o.base (List.prefix_refl _) k)⟩
          cases i' with
          | none => exact hr.sl.mono (List.prefix_refl _) k
          | some j => exact (hr.sl.mono (List.prefix_refl _) k).set hs
      · subst hb
        exact ih o
end
section
variable [Tb] {X : Cx} {W : WX} {body : List Stmt} {h₀ : ExceptHandler} {hds : List ExceptHandler} {pos : Pos} {k : Nat} {cb : CS} {cl : List (Str × Option Nat × CS)} {em : Str → Str → Option Bool}
theorem HdE.hda {hds : List ExceptHandler} {cl : List (Str × Option Nat × CS)} (h : HdE X hds cl) : ∃ l, HdA X hds l ∧ Paired (fun (q : Str × Option Nat × CS) (p : Value × Option Nat × TS) => ∃ C, (kf X).mg q.1 = some (.ref C) ∧ p.1 = .ref C ∧ p.2.1 = q.2.1 ∧ p.2.2 = rdS (kf X) WF q.2.2) cl l := by
  induction h with
  | nil => exact ⟨[], .nil, .nil⟩
  | as_ hg hdb hm hi hln hsu r ih =>
    obtain ⟨l, a, b⟩ := ih
    exact ⟨_, .as_ ⟨hg, hdb, .inl hm⟩ hi hln (fun a pn => hsu a pn) a, .cons ⟨_, hm, rfl, rfl, rfl⟩ b⟩
  | no hg hdb hm hsu r ih =>
    obtain ⟨l, a, b⟩ := ih
    exact ⟨_, .no ⟨hg, hdb, .inl hm⟩ (fun a pn => hsu a pn) a, .cons ⟨_, hm, rfl, rfl, rfl⟩ b⟩
theorem Bd.tr (B : Bd X W k) {W' : WX} {pn : List (Addr × Obj)} {xe : Value → Shared → Prop} (tk : Takes (X.tr pn xe) W') (own : PassesOwn (model X.prog X.w) X.A X.env xe) : Bd (X.tr pn xe) W' k :=
  ⟨⟨B.calm, B.nd, tk, B.room, B.gd⟩, own, fun ok => B.cb ok.ofTry⟩
theorem es_try (B : Bd X W k) (hem : EmOk (kf X) em) (hb : ∀ (W' : WX) (pn : List (Addr × Obj)) (xe : Value → Shared → Prop), Bd (X.tr pn xe) W' k → EvB (X.tr pn xe) W' body cb) (hh : HdE X (h₀ :: hds) cl)
    (hex : X.ex = [] := by rfl) (hs : X.stack = X.env :: X.outer := by rfl) (hf : X.env.frame = some X.env.locals := by rfl) : EvS X W (.Try body (h₀ :: hds) [] [] pos) (tryC em cb cl) := by
  obtain ⟨l, hA, hP⟩ := hh.hda
  refine PS.imp (ps_tryA (tb := fun W' => rdS (kf X) W' cb) hex hs hf B.nd B.tk (fun W' pn xe tk own => hb W' pn xe (B.tr tk own)) hA) fun D σ H ⟨ι, vs, M, hr, o⟩ => ⟨ι, vs, M, hr, ?_⟩
  unfold tryC at o
  cases e : cb vs M with
  | exc c fs vs1 M1 =>
    rw [e] at o
    exact fun ι' H' σ' C d h1 h2 h3 h4 => hd_out (mg := X.mg) hem hP h3 h4 (o.base h1 h2)
  | nx vs1 M1 => rw [e] at o; exact o
  | bk vs1 M1 => rw [e] at o; exact o
  | ct vs1 M1 => rw [e] at o; exact o
  | rt v M1 => rw [e] at o; exact o
  | bad => rw [e] at o; exact o
/-- e.f, e what the clause holds -/
def exfC (c : Str) (i : Nat) (f : Str) : CE := fun vs M => match vs[i]? with
  | some (some (.exc c' fs)) => if c' = c then match fs.lookup f with
      | some a => .ok a M
      | none => .bad
    else .bad
  | _ => .bad
/-- what the written part says of the class -/
structure ExFld (κ : Cfg) (c f : Str) : Prop where
  ga : ∀ C, κ.mg c = some (.ref C) → PySem.W.findIn κ.K (.ref C) "__getattribute__" = some (some (.builtin "BaseException.__getattribute__")) ∧ (∃ gt, PySem.W.findIn κ.K (.ref C) "__getattr__" = some gt) ∧ PySem.W.subIn κ.K (.ref C) (.type "BaseException") = some true ∧
    PySem.W.hasDictIn κ.K C = true ∧ PySem.W.findIn κ.K (.ref C) f = some none
theorem FR.lookup {κ : Cfg} {ι : List Addr} {H : Hp} : ∀ {fs : List (Str × AV)} {gs : List (Str × V)} {f : Str} {a : AV}, FR κ ι H fs gs → fs.lookup f = some a → ∃ v, gs.lookup f = some v ∧ VR κ ι H a v
  | [], _, _, _, _, e => by cases e
  | (g, x) :: fs, gs, f, a, ⟨h1, h2⟩, e => by
    obtain ⟨v, ws, e2, r, t⟩ := h2.cons_inv
    cases gs with
    | nil => cases e2
    | cons p gs =>
      obtain ⟨g', v'⟩ := p
      simp only [List.map_cons, List.cons.injEq] at h1 e2
      obtain ⟨rfl, h1⟩ := h1
      obtain ⟨rfl, rfl⟩ := e2
      rw [List.lookup_cons] at e ⊢
      cases hb : (f == g) with
      | true => rw [hb] at e; cases e; exact ⟨_, rfl, r⟩
      | false => rw [hb] at e; exact FR.lookup ⟨h1, t⟩ e
theorem FR.lookup_none {κ : Cfg} {ι : List Addr} {H : Hp} {fs : List (Str × AV)} {gs : List (Str × V)} {f : Str} (h : FR κ ι H fs gs) (e : fs.lookup f = none) : gs.lookup f = none := by
  have : ∀ {fs : List (Str × AV)} {gs : List (Str × V)}, fs.map (·.1) = gs.map (·.1) → fs.lookup f = none → gs.lookup f = none := by
    intro fs
    induction fs with
    | nil => intro gs h e; cases gs with
      | nil => rfl
      | cons p gs => cases h
    | cons q fs ih => intro gs h e; cases gs with
      | nil => cases h
      | cons p gs =>
        obtain ⟨g, x⟩ := q
        obtain ⟨g', v⟩ := p
        simp only [List.map_cons, List.cons.injEq] at h
        obtain ⟨rfl, h⟩ := h
        rw [List.lookup_cons] at e ⊢
        cases hb : (f == g) with
        | true => rw [hb] at e; cases e
        | false => rw [hb] at e; exact ih h e
  exact this h.1 e
theorem ev_exf {x c f : Str} {pos p : Pos} (i : Nat) (F : ExFld (kf X) c f) (hN : X.N[i]? = some x := by rfl) (hv : Vis X.env.scope x := by first | exact Or.inl rfl | exact Or.inr (Or.inl rfl) | exact Or.inr (Or.inr rfl)) (hd : (x == ("__debug__" : Str)) = false := by decide +kernel)
    (hcd : (x == ("__classdict__" : Str)) = false := by decide +kernel) (hb : attributeBase (.Name x p) f X.env (eval (.Name x p) X.env) = eval (.Name x p) X.env := by rfl) : EvE X W (.Attribute (.Name x p) f pos) (exfC c i f) := by
  refine ⟨fun pins s σ H Q I ⟨ι, vs, M, hr, o⟩ => ?_⟩
  unfold exfC at o
  split at o
  case h_2 => exact o.elim
  rename_i c' fs ev
  split at o
  case isFalse => exact o.elim
  rename_i hc
  subst hc
  split at o
  case h_2 => exact o.elim
  rename_i b el
  obtain ⟨v, e1, a, oe, C, rfl, e2, e3, ⟨vs', e4⟩, e5, e6⟩ := hr.sl.at_ i _ ev
  refine attr_of hb (thn ((pe_var (pos := p) (i := i) hN hv hd hcd).run pins s σ H (fun v H1 => v = .ref a ∧ H1 = H) I ⟨.ref a, e1, rfl, rfl⟩) fun u s1 ⟨v, H1, I1, rv, ev1, eH⟩ => ?_)
  subst ev1 eH
  obtain rfl : u = Value.ref a := rv
  rcases e6 with ⟨_, z⟩ | ⟨d, od, gs, q1, q2, q3⟩
  · subst z; cases el
  · obtain ⟨g1, ⟨gt, g2⟩, g3, g4, g5⟩ := F.ga C e5
    obtain ⟨w1, l1, rw1⟩ := q3.lookup el
    have ha := (I1.hok a _ e2).1
    obtain ⟨ho, mA, hns, rel⟩ := I1.hok d _ q2
    obtain ⟨u, hu, ru⟩ := RelO.some_of (v := w1) (o := mA f) (by rw [← l1]; exact rel f)
    obtain ⟨od', ho', hl⟩ := lookIn_ns hns
    rw [ho] at ho'; cases ho'
    have J : PySem.W.InstAt s1.heap a oe C (some od) := ⟨ha, e3, by unfold PySem.W.notCls; rw [e4] <;> rfl, by rw [q1]; exact ho⟩
    exact HandSPX.exc_get I1.kIn J g1 g2 g3 (PySem.W.findObj_own g4 g5 rfl (by rw [hl, hu])) (handed_of ru) ⟨w1, H1, I1.tok _, ru, Out.fin hr o rw1⟩
end
end AM
end

section
set_option Elab.async false
set_option linter.all false
set_option autoImplicit false
set_option maxRecDepth 100000
set_option maxHeartbeats 4000000
/-! AM 15: instances; calls with keywords; == of instances and functions. -/
namespace AM
open PySem PySem.Spec L2

/-! ### fields -/
def putA (f : Str) (v : AV) : List (Str × AV) → List (Str × AV)
  | [] => [(f, v)]
  | (g, x) :: r => if g = f then (g, v) :: r else (g, x) :: putA f v r
def fldA (c f : Str) (a : AV) (M : AH) : R AV := match a with
  | .ref i => match M[i]? with
    | some (.ins c' fs) => if c' = c then match fs.lookup f with
        | some v => .ok v M
        | none => .bad
      else .bad
    | _ => .bad
  | _ => .bad
def setF (c f : Str) (o v : AV) (M : AH) : R Unit := match o with
  | .ref i => match M[i]? with
    | some (.ins c' fs) => if c' = c ∧ fs.length < 1000 then .ok () (M.set i (.ins c (putA f v fs))) else .bad
    | _ => .bad
  | _ => .bad
def fldS (c f : Str) (co cv : CE) : CS := fun vs M => thenS ((cv vs M).bind fun v M1 => (co vs M1).bind fun o M2 => setF c f o v M2) vs fun _ M3 => .nx vs M3
structure ClsFld (κ : Cfg) (c f : Str) : Prop where
  ok : ∀ C, κ.mg c = some (.ref C) → Cls κ.K C ∧ NoAttr κ.K C f
theorem FR.put {κ : Cfg} {ι : List Addr} {H : Hp} {f : Str} {a : AV} {v : V} (r : VR κ ι H a v) : ∀ {fs : List (Str × AV)} {gs : List (Str × V)}, FR κ ι H fs gs → FR κ ι H (putA f a fs) (putF f v gs)
  | [], gs, ⟨h1, h2⟩ => by
    cases gs with
    | nil => exact ⟨rfl, .cons r .nil⟩
    | cons p gs => cases h1
  | (g, x) :: fs, gs, ⟨h1, h2⟩ => by
    obtain ⟨w, ws, e2, r2, t⟩ := h2.cons_inv
    cases gs with
    | nil => cases e2
    | cons p gs =>
      obtain ⟨g', v'⟩ := p
      simp only [List.map_cons, List.cons.injEq] at h1 e2
      obtain ⟨rfl, h1⟩ := h1
      obtain ⟨rfl, rfl⟩ := e2
      unfold putA putF
      split
      · exact ⟨by simp [h1], .cons r t⟩
      · obtain ⟨k1, k2⟩ := FR.put r ⟨h1, t⟩
        exact ⟨by simp [k1], .cons r2 k2⟩
theorem FR.mono {κ : Cfg} {ι ι' : List Addr} {H H' : Hp} {fs : List (Str × AV)} {gs : List (Str × V)} (h : FR κ ι H fs gs) (hι : ι <+: ι') (k : Keep H H') : FR κ ι' H' fs gs := ⟨h.1, h.2.mono hι k⟩
section
variable [Tb] {X : Cx} {W : WX} {o e value : Expr} {f c : Str} {pos pos' : Pos} {ce co cv : CE}
theorem ev_fld (F : ClsFld (kf X) c f) (he : EvE X W e ce) (hb : attributeBase e f X.env (eval e X.env) = eval e X.env := by rfl) : EvE X W (.Attribute e f pos) (un1 (fldA c f) ce) :=
  PE.imp (pe_fld he hb) fun σ H Q ⟨ι, vs, M, hr, o⟩ => Out.run hr o fun ι1 a M1 v H1 h1 h2 h3 h4 h5 => by
    unfold fldA at h5
    split at h5
    case h_2 => exact h5.elim
    rename_i i
    split at h5
    case h_2 => exact h5.elim
    rename_i c' fs em
    split at h5
    case isFalse => exact h5.elim
    rename_i hc
    split at h5
    case h_2 => exact h5.elim
    rename_i b el
    subst hc
    rw [vr_ref] at h4
    obtain ⟨p, ep, rfl⟩ := h4
    obtain ⟨C, dx, gs, k0, k1, k2⟩ := h3.rep.at_ em ep
    obtain ⟨w, lw, rw1⟩ := k2.lookup el
    obtain ⟨f1, f2⟩ := F.ok C k0
    exact ⟨p, C, dx, gs, w, rfl, k1, f1, f2, lw, Out.fin h3 h5 rw1⟩
theorem es_fld (F : ClsFld (kf X) c f) (ho : EvE X W o co) (hv : EvE X W value cv) (hs : swapsWith value (some (.Attribute o f pos')) pos.line X.env = pure false := by rfl) : EvS X W (.Assign [.Attribute o f pos'] value pos) (fldS c f co cv) :=
  PS.imp (ps_fld ho hv hs) fun D σ H ⟨ι, vs, M, hr, oo⟩ => by
    have o' : Out (kf X) W (fun _ _ (_ : Unit) (_ : Unit) => True) ι vs σ H (fun _ H' => D.nx σ H') ((cv vs M).bind fun v M1 => (co vs M1).bind fun o M2 => setF c f o v M2) := by
      unfold fldS at oo
      cases e : (cv vs M).bind fun v M1 => (co vs M1).bind fun o M2 => setF c f o v M2 with
      | ok z M1 => rw [e] at oo; exact fun ι' H' b k1 k2 k3 _ => oo ι' H' σ k1 k2 k3
      | exc k fs M1 => rw [e] at oo; exact fun ι' H' C d k1 k2 k3 k4 => oo ι' H' σ C d k1 k2 k3 k4
      | bad => rw [e] at oo; exact oo
    refine Out.run hr o' fun ι1 a M1 v H1 h1 h2 h3 h4 h5 => Out.run h3 h5 fun ι2 b M2 w H2 g1 g2 g3 g4 g5 => ?_
    unfold setF at g5
    split at g5
    case h_2 => exact g5.elim
    rename_i i
    split at g5
    case h_2 => exact g5.elim
    rename_i c' fs em
    split at g5
    case isFalse => exact g5.elim
    rename_i hc
    obtain ⟨rfl, hl⟩ := hc
    rw [vr_ref] at g4
    obtain ⟨p, ep, rfl⟩ := g4
    obtain ⟨C, dx, gs, k0, k1, k2⟩ := g3.rep.at_ em ep
    obtain ⟨f1, f2⟩ := F.ok C k0
    have hlen : fs.length = gs.length := by simpa using congrArg List.length k2.1
    have hk : Keep H2 (upd H2 p (.ins C dx (putF f v gs))) := Keep.mut k1 (fun _ z => by cases z) fun _ _ z => by cases z
    refine ⟨p, C, dx, gs, rfl, k1, f1, f2, by rw [← hlen]; exact hl, ?_⟩
    exact g5 ι2 _ () (List.prefix_refl _) hk (g3.set ep k1 hk ⟨C, dx, _, k0, upd_same, ((k2.mono (List.prefix_refl _) hk).put (h4.mono g1 (g2.trans hk)))⟩ fun _ z => by cases z) True.intro
end

/-! ### an instance is made -/
def madeR (i : Nat) (r : R AV) : R AV := match r with
  | .ok a M => match a with
    | .non => .ok (.ref i) M
    | _ => .bad
  | .exc c fs M => .exc c fs M
  | .bad => .bad
def makeA (c : Str) (n : Nat) (F : List SV → AH → R AV) (as : List AV) (M : AH) : R AV := if as.length + 1 = n then madeR M.length (F (.val (.ref M.length) :: as.map .val) (M ++ [.ins c []])) else .bad
def makeC (c : Str) (n : Nat) (F : List SV → AH → R AV) (r : CA) : CE := fun vs M => (r vs M).bind (makeA c n F)
structure KnI (κ : Cfg) (k : Nat) (c : Str) (n : Nat) (F : List SV → AH → R AV) : Prop where
  ex : ∃ (C f : Addr) (fd : FuncData) (ps : List Str), κ.mg c = some (.ref C) ∧ Mk κ.K C f ∧ FnG κ k f fd ps (spF κ n F) ∧ Binds κ.K fd ps []
section
variable [Tb] {X : Cx} {W : WX} {e : Expr} {es : List Expr} {pos p : Pos} {c : Str} {r : CA} {k n : Nat} {F : List SV → AH → R AV}
theorem guards_make {A : Around} {C : Addr} {us : List Value} {kw : List (Str × Value)} : (A.under (.builtin "type.__call__" ⟨.ref C :: us, kw⟩)).guards = A.guards := by
  cases h : A.guards <;> simp [Around.under, Code.guards, Code.isGuard, guardIds, pushGuards, h]
theorem run_makeS {pins : List (Addr × Obj)} {σ : L2.St} {H : Hp} {s : Shared} {Q : VK} {us : List Value} {vs : List V} {C f : Addr} {fd : FuncData} {ps : List Str} {sp : Sp} (M : Mk X.K C f) (B : Be X W (k + 1)) (F : FnG (kf X) k f fd ps sp) (hb : Binds X.K fd ps [])
    (I : Inv X pins σ H s) (r : Vals vs us)
    (h : ∀ x dx, H x = none → H dx = none → dx ≠ x → sp (.ref x :: vs) (upd (upd H dx (.own x)) x (.ins C dx [])) (fun v H2 => v = .non ∧ Q (.ref x) H2) (WE W σ)) :
    wpAny (model X.prog X.w) X.A (call (.ref C) us) (EP X pins σ Q) X.xe s := by
  have hq := h (s.heap.objs.size + 1) s.heap.objs.size (I.hok.fresh (Nat.le_succ _)) (I.hok.fresh (Nat.le_refl _)) (Nat.ne_of_lt (Nat.lt_succ_self _))
  have I2 := Inv.made (C := C) I
  have r2 : Vals (V.ref (s.heap.objs.size + 1) :: vs) (Value.ref (s.heap.objs.size + 1) :: us) := .cons rfl r
  have hl : (Value.ref (s.heap.objs.size + 1) :: us).length = ps.length := by
    have e := r2.length
    rw [F.len _ _ _ _ hq] at e
    exact e.symm
  have b := hb { s with heap := (s.heap.push PySem.W.emptyDict).push (PySem.W.instObj C s.heap.objs.size) } (Value.ref (s.heap.objs.size + 1) :: us) I2.kIn (by rw [List.append_nil]; exact hl)
  rw [List.append_nil] at b
  refine wpAny_call (make_map (f := f) I.kIn M.makes M.init (beq_iff_eq.mp M.fn) (codeAny_mono (F.run _ X.stack _ _ ⟨Value.ref (s.heap.objs.size + 1) :: us, []⟩ (Value.ref (s.heap.objs.size + 1) :: us) _ _ (WE W σ) (B.room.make C us []) (guards_make.trans B.gd)
    (I2.env0.make C us []) b r2 hq) fun r s' hq' => ?_))
  cases r with
  | error e => exact passAt B.tk σ pins _ _ e s' I2 hq'
  | ok fl =>
    cases fl with
    | ret u =>
      obtain ⟨v, H', I3, rv, ev, q3⟩ := I2.after hq'
      subst ev
      exact ⟨rv, ⟨V.ref (s.heap.objs.size + 1), H', I3, rfl, q3⟩⟩
    | next => exact False.elim hq'
    | brk => exact False.elim hq'
    | cont => exact False.elim hq'
theorem make_goal {ι : List Addr} {vs : Loc} {M : AH} {σ : L2.St} {H : Hp} {Q : VK} {as : List AV} {ws : List V} {C x dx : Addr} (hr : Rel (kf X) ι vs M σ H) (hm : X.mg c = some (.ref C)) (ha : VRs (kf X) ι H as ws) (o : Out (kf X) W (VR (kf X)) ι vs σ H Q (makeA c n F as M))
    (hx : H x = none) (hdx : H dx = none) (hne : dx ≠ x) : spF (kf X) n F (.ref x :: ws) (upd (upd H dx (.own x)) x (.ins C dx [])) (fun v H2 => v = .non ∧ Q (.ref x) H2) (WE W σ) := by
  unfold makeA at o
  split at o
  case isFalse => exact o.elim
  rename_i hl
  have k1 : Keep H (upd H dx (.own x)) := Keep.new hdx
  have hx1 : upd H dx (.own x) x = none := by rw [upd_ne (Ne.symm hne)]; exact hx
  have k2 : Keep (upd H dx (.own x)) (upd (upd H dx (.own x)) x (.ins C dx [])) := Keep.new hx1
  have kk := k1.trans k2
  have rep2 : Rep (kf X) (ι ++ [x]) (M ++ [.ins c []]) (upd (upd H dx (.own x)) x (.ins C dx [])) := (hr.rep.other hdx).snoc hx1 ⟨C, dx, [], hm, upd_same, rfl, .nil⟩
  have sl2 : SLs (kf X) (ι ++ [x]) (upd (upd H dx (.own x)) x (.ins C dx [])) vs σ := hr.sl.mono (List.prefix_append _ _) kk
  have vx : VR (kf X) (ι ++ [x]) (upd (upd H dx (.own x)) x (.ins C dx [])) (.ref M.length) (.ref x) := by
    rw [vr_ref]
    exact ⟨x, by rw [← hr.rep.len]; simp, rfl⟩
  refine ⟨by simp [← ha.length]; exact hl, ι ++ [x], _, _, rep2, .cons (show SVR (kf X) _ _ (.val (.ref M.length)) _ from vx) (paired_val (ha.mono (List.prefix_append _ _) kk)), ?_⟩
  unfold madeR at o
  cases e : F (.val (.ref M.length) :: as.map .val) (M ++ [.ins c []]) with
  | ok a M' =>
    rw [e] at o
    dsimp only at o
    cases a with
    | non =>
      refine fun ι' H' v h1 h2 h3 h4 => ?_
      rw [vr_non] at h4
      refine ⟨h4, o ι' H' _ ((List.prefix_append _ _).trans h1) (kk.trans h2) ⟨sl2.mono h1 h2, h3⟩ (vx.mono h1 h2)⟩
    | _ => exact o.elim
  | exc c' fs M' =>
    rw [e] at o
    exact fun ι' H' C d h1 h2 h3 h4 => o ι' H' C d ((List.prefix_append _ _).trans h1) (kk.trans h2) ⟨sl2.mono h1 h2, h3⟩ h4
  | bad => rw [e] at o; exact o
theorem ev_make (B : Be X W (k + 1)) (hk : KnI (kf X) k c n F) (hg : Gl X c) (ha : EvA X W (e :: es) r) (hdb : (c == ("__debug__" : Str)) = false := by decide +kernel)
    (he : starEach (e :: es) X.env = (false, eval e X.env) :: starEach es X.env := by rfl) (hpl : (backTo pos (starEach es X.env)).any (·.1) = false := by rfl) : EvE X W (.Call (.Name c p) (e :: es) [] pos) (makeC c n F r) := by
  obtain ⟨C, f, fd, ps, h1, h2, h3, h4⟩ := hk.ex
  refine ⟨fun pins s σ H Q I ⟨ι, vs, M, hr, o⟩ => ?_⟩
  refine wpAny_Call_Name_kw (ld_glob I hg h1 ?_ hdb)
  have hq : rdA (kf X) W r σ H fun ws H1 => ∃ ι1 as M1, Rel (kf X) ι1 vs M1 σ H1 ∧ VRs (kf X) ι1 H1 as ws ∧ Out (kf X) W (VR (kf X)) ι1 vs σ H1 Q (makeA c n F as M1) :=
    ⟨ι, vs, M, hr, (Out.bind o).imp fun _ _ _ _ _ _ _ _ _ ⟨ι1, a, M1, g1, g2, g3, g4, g5⟩ => ⟨ι1, a, M1, g3, g4, g5⟩⟩
  refine PySem.W.callWith_K (h₀ := X.base) I.ok.mod.kin h2.kp (thn (ha.run pos pins s σ H _ I hq) fun us s1 ⟨ws, H1, I1, r1, ι1, as, M1, g3, g4, g5⟩ => ⟨I1.kIn, ?_⟩) he hpl
  exact run_makeS h2 B h3 h4 I1 r1 fun x dx a1 a2 a3 => make_goal g3 h1 g4 g5 a1 a2 a3
end

/-! ### keywords -/
def permL {α : Type} (perm : List Nat) (l : List α) : List α := perm.filterMap fun i => l[i]?
theorem permL_vals {vs : List V} {us : List Value} (h : Vals vs us) : ∀ (perm : List Nat), Vals (permL perm vs) (permL perm us)
  | [] => .nil
  | i :: perm => by
    unfold permL
    rw [List.filterMap_cons, List.filterMap_cons]
    cases e : vs[i]? with
    | none =>
      have e2 : us[i]? = none := by rw [List.getElem?_eq_none_iff] at e ⊢; rw [← Paired.length h]; exact e
      rw [e2]
      exact permL_vals h perm
    | some v =>
      obtain ⟨u, eu, ru⟩ := h.get e
      rw [eu]
      exact .cons ru (permL_vals h perm)
theorem permL_vrs {κ : Cfg} {ι : List Addr} {H : Hp} {as : List AV} {ws : List V} (h : VRs κ ι H as ws) : ∀ (perm : List Nat), VRs κ ι H (permL perm as) (permL perm ws)
  | [] => .nil
  | i :: perm => by
    unfold permL
    rw [List.filterMap_cons, List.filterMap_cons]
    cases e : as[i]? with
    | none =>
      rw [h.none e]
      exact permL_vrs h perm
    | some a =>
      obtain ⟨v, ev, rv⟩ := h.get e
      rw [ev]
      exact .cons rv (permL_vrs h perm)
/-- a def that is called with keywords: j positional values, the keywords ks -/
structure KnW (κ : Cfg) (k : Nat) (x : Str) (n : Nat) (F : List SV → AH → R AV) (j : Nat) (ks : List Str) (perm : List Nat) : Prop where
  ex : ∃ (f : Addr) (fd : FuncData) (ps : List Str), κ.mg x = some (.ref f) ∧ PySem.W.keepIn κ.K (.ref f) = true ∧ FnG κ k f fd ps (spF κ n F) ∧ KBn κ.K fd ps j ks (fun us ws => permL perm (us ++ ws)) (fun us ws => permL perm (us ++ ws))
def kwA (n : Nat) (F : List SV → AH → R AV) (perm : List Nat) (as bs : List AV) (M : AH) : R AV := if (permL perm (as ++ bs)).length = n then F ((permL perm (as ++ bs)).map .val) M else .bad
def callK (n : Nat) (F : List SV → AH → R AV) (j m : Nat) (perm : List Nat) (r rk : CA) : CE := fun vs M => (r vs M).bind fun as M1 => (rk vs M1).bind fun bs M2 => if as.length = j ∧ bs.length = m then kwA n F perm as bs M2 else .bad
section
variable [Tb] {X : Cx} {W : WX} {e : Expr} {es : List Expr} {pos p kpos : Pos} {x : Str} {nm : Option Str} {kws : List Keyword} {r rk : CA} {ce : CE} {k n j : Nat} {F : List SV → AH → R AV} {ks : List Str} {perm : List Nat}
abbrev EvK [Tb] (X : Cx) (W : WX) (kws : List Keyword) (r : CA) : Prop := PK X kws (rdA (kf X) W r)
theorem PK.imp {t t' : TA} (h : PK X kws t) (k : ∀ σ H Q, t' σ H Q → t σ H Q) : PK X kws t' := ⟨fun pos pins s σ H Q I q => h.run pos pins s σ H Q I (k σ H Q q)⟩
theorem ek_nil : EvK X W [] nilA := PK.imp pk_nil fun σ H Q ⟨ι, vs, M, hr, o⟩ => Out.fin hr o .nil
theorem ek_cons (ha : EvE X W e ce) (hr : EvK X W kws r) : EvK X W (⟨nm, e, kpos⟩ :: kws) (consA ce r) :=
  PK.imp (pk_cons ha hr) fun σ H Q ⟨ι, vs, M, hr, o⟩ => Out.run hr o fun ι1 a M1 v H1 h1 h2 h3 h4 h5 => Out.run h3 h5 fun ι2 as M2 ws H2 g1 g2 g3 g4 g5 => Out.fin g3 g5 (.cons (h4.mono g1 g2) g4)
theorem run_kw {f : Addr} {fd : FuncData} {ps : List Str} {pins : List (Addr × Obj)} {σ : L2.St} {H : Hp} {s : Shared} {Q : VK} {us vs' : List Value} {zs ws : List V} {ι : List Addr} {vs : Loc} {M : AH} {as bs : List AV} (B : Be X W k)
    (h3 : FnG (kf X) k f fd ps (spF (kf X) n F)) (h4 : KBn X.K fd ps j ks (fun us ws => permL perm (us ++ ws)) (fun us ws => permL perm (us ++ ws))) (I : Inv X pins σ H s) (r1 : Vals zs us) (r2 : Vals ws vs') (l1 : us.length = j) (l2 : vs'.length = ks.length)
    (hr : Rel (kf X) ι vs M σ H) (ha : VRs (kf X) ι H as zs) (hb : VRs (kf X) ι H bs ws) (o : Out (kf X) W (VR (kf X)) ι vs σ H Q (kwA n F perm as bs M)) : wpAny (model X.prog X.w) X.A (call (.ref f) us (ks.zip vs')) (EP X pins σ Q) X.xe s := by
  unfold kwA at o
  split at o
  case isFalse => exact o.elim
  rename_i hl
  have hp := permL_vrs (ha.app hb) perm
  have hsp : spF (kf X) n F (permL perm (zs ++ ws)) H Q (WE W σ) := ⟨by rw [← hp.length]; exact hl, ι, M, _, hr.rep, paired_val hp, OutF.ofOut hr.sl (fun _ _ _ => Iff.rfl) o⟩
  refine wpAny_call (codeAny_mono (h3.run X.A X.stack s H ⟨us, ks.zip vs'⟩ _ _ Q (WE W σ) B.room B.gd I.env0 (h4.to s us vs' I.kIn l1 l2) (h4.rel r1 r2) hsp) fun rr s' hq => ?_)
  cases rr with
  | error e => exact passAt B.tk σ pins H s e s' I hq
  | ok fl =>
    cases fl with
    | ret u => exact I.after hq
    | next => exact False.elim hq
    | brk => exact False.elim hq
    | cont => exact False.elim hq
theorem ev_callK (B : Be X W k) (hk : KnW (kf X) k x n F j ks perm) (hg : Gl X x) (ha : EvA X W (e :: es) r) (hkw : EvK X W kws rk) (hall : (backToKw pos (keywordEach kws X.env)).all (·.1.isSome) = true := by rfl) (hks : (backToKw pos (keywordEach kws X.env)).filterMap (·.1) = ks := by rfl)
    (hdb : (x == ("__debug__" : Str)) = false := by decide +kernel) (he : starEach (e :: es) X.env = (false, eval e X.env) :: starEach es X.env := by rfl)
    (hpl : ((backTo pos (starEach (e :: es) X.env)).any (·.1) || (backToKw pos (keywordEach kws X.env)).any (·.1.isNone)) = false := by rfl) : EvE X W (.Call (.Name x p) (e :: es) kws pos) (callK n F j ks.length perm r rk) := by
  obtain ⟨f, fd, ps, h1, h2, h3, h4⟩ := hk.ex
  refine ⟨fun pins s σ H Q I ⟨ι, vs, M, hr, o⟩ => ?_⟩
  refine wpAny_Call_Name_kw (ld_glob I hg h1 ?_ hdb)
  have hq : rdA (kf X) W r σ H fun zs H1 => rdA (kf X) W rk σ H1 fun ws H2 => ∃ ι1 as bs M1, Rel (kf X) ι1 vs M1 σ H2 ∧ VRs (kf X) ι1 H2 as zs ∧ VRs (kf X) ι1 H2 bs ws ∧ Out (kf X) W (VR (kf X)) ι1 vs σ H2 Q (if as.length = j ∧ bs.length = ks.length then kwA n F perm as bs M1 else .bad) :=
    Out.run hr o fun ι1 as M1 zs H1 a1 a2 a3 a4 a5 => Out.run a3 a5 fun ι2 bs M2 ws H2 b1 b2 b3 b4 b5 => ⟨ι2, as, bs, M2, b3, a4.mono b1 b2, b4, b5⟩
  refine PySem.W.callWith_KW (h₀ := X.base) I.ok.mod.kin h2 hall (thn (ha.run pos pins s σ H _ I hq) fun us s1 ⟨zs, H1, I1, r1, q⟩ => ?_) hpl he
  refine thn (hkw.run pos pins s1 σ H1 _ I1 q) fun us2 s2 ⟨ws, H2, I2, r2, ι1, as, bs, M1, g1, g2, g3, g4⟩ => ⟨I2.kIn, ?_⟩
  rw [hks]
  split at g4
  case isFalse => exact g4.elim
  rename_i hl
  show wpAny _ _ (call (.ref f) us (ks.zip us2)) _ _ _
  exact run_kw B h3 h4 I2 r1 r2 (by rw [← Paired.length r1, ← g2.length]; exact hl.1) (by rw [← Paired.length r2, ← g3.length]; exact hl.2) g1 g2 g3 g4
theorem ev_callK0 (B : Be X W k) (hk : KnW (kf X) k x n F 0 ks perm) (hg : Gl X x) (hkw : EvK X W kws rk) (hall : (backToKw pos (keywordEach kws X.env)).all (·.1.isSome) = true := by rfl) (hks : (backToKw pos (keywordEach kws X.env)).filterMap (·.1) = ks := by rfl)
    (hdb : (x == ("__debug__" : Str)) = false := by decide +kernel)
    (hpl : ((backTo pos (starEach [] X.env)).any (·.1) || (backToKw pos (keywordEach kws X.env)).any (·.1.isNone)) = false := by rfl) : EvE X W (.Call (.Name x p) [] kws pos) (callK n F 0 ks.length perm nilA rk) := by
  obtain ⟨f, fd, ps, h1, h2, h3, h4⟩ := hk.ex
  refine ⟨fun pins s σ H Q I ⟨ι, vs, M, hr, o⟩ => ?_⟩
  refine wpAny_Call_Name_kw (ld_glob I hg h1 ?_ hdb)
  have o : Out (kf X) W (VR (kf X)) ι vs σ H Q ((rk vs M).bind fun bs M2 => if ([] : List AV).length = 0 ∧ bs.length = ks.length then kwA n F perm [] bs M2 else .bad) := o
  have hq : rdA (kf X) W rk σ H fun ws H2 => ∃ ι1 bs M1, Rel (kf X) ι1 vs M1 σ H2 ∧ VRs (kf X) ι1 H2 bs ws ∧ Out (kf X) W (VR (kf X)) ι1 vs σ H2 Q (if ([] : List AV).length = 0 ∧ bs.length = ks.length then kwA n F perm [] bs M1 else .bad) :=
    Out.run hr o fun ι2 bs M2 ws H2 b1 b2 b3 b4 b5 => ⟨ι2, bs, M2, b3, b4, b5⟩
  refine PySem.W.callWith_KW0 (h₀ := X.base) I.ok.mod.kin h2 hall ?_ hpl
  refine thn (hkw.run pos pins s σ H _ I hq) fun us2 s2 ⟨ws, H2, I2, r2, ι1, bs, M1, g1, g3, g4⟩ => ⟨I2.kIn, ?_⟩
  rw [hks]
  split at g4
  case isFalse => exact g4.elim
  rename_i hl
  show wpAny _ _ (call (.ref f) [] (ks.zip us2)) _ _ _
  exact run_kw B h3 h4 I2 .nil r2 rfl (by rw [← Paired.length r2, ← g3.length]; exact hl.2) g1 .nil g3 g4
end

/-! ### == -/
def blR (r : R AV) : R AV := match r with
  | .ok (.bl k) M => .ok (.bl k) M
  | _ => .bad
def insOf (M : AH) (i : Nat) : Option Str := match M[i]? with
  | some (.ins c _) => some c
  | _ => none
/-- data, functions (those named), instances of c by their own == -/
def opEqW (fns : List Str) (c : Str) (F : List SV → AH → R AV) (a b : AV) (M : AH) : R AV := match a, b with
  | .glo x, .glo y => if x = y ∧ x ∈ fns then .ok (.bl true) M else .bad
  | .ref i, .ref j => if insOf M i = some c ∧ insOf M j = some c then blR (F [.val (.ref i), .val (.ref j)] M) else opEq (.ref i) (.ref j) M
  | a, b => opEq a b M
theorem slot_fn_eq : Slot "function" (cmpInfo .Eq).2.1 "object.__eq__" :=
  .of (owner := "object") (n := "__eq__") (by rw [typeLookup_type, builtinLookup_eq_fast]; kernel_rfl) (by decide +kernel) (by decide +kernel) (by decide +kernel)
    (by first | exact .inl (by decide +kernel) | exact .inr (by decide +kernel)) (by rw [isSubtype_type]; kernel_rfl)
structure KnEq (κ : Cfg) (k : Nat) (c : Str) (F : List SV → AH → R AV) : Prop where
  ex : ∀ C, κ.mg c = some (.ref C) → ∃ (f : Addr) (fd : FuncData) (ps : List Str), PySem.W.findIn κ.K (.ref C) "__eq__" = some (some (.ref f)) ∧ PySem.W.isFn κ.K (.ref f) = true ∧ FnG κ k f fd ps (spF κ 2 F) ∧ Binds κ.K fd ps []
/-- these global names are functions -/
structure GloFn (κ : Cfg) (fns : List Str) : Prop where
  ok : ∀ x f, x ∈ fns → κ.mg x = some (.ref f) → ∃ o, κ.K.lookup f = some o ∧ o.cls = .type "function"
section
variable [Tb] {X : Cx} {W : WX} {k : Nat} {c : Str} {F : List SV → AH → R AV} {fns : List Str}
theorem ok_eqW (B : Be X W k) (G : GloFn (kf X) fns) (E : KnEq (kf X) k c F) : OpR X (compareOp .Eq) (rd2 (kf X) W (opEqW fns c F)) := by
  intro pins s σ0 H x y v u Q I rx ry ⟨ι, vs, M, σ, a, b, hr, ha, hb, o⟩
  have base : ∀ {a b : AV}, VR (kf X) ι H a x → VR (kf X) ι H b y → Out (kf X) W (VR (kf X)) ι vs σ H Q (opEq a b M) → wpAny (model X.prog X.w) X.A (compareOp .Eq v u) (EP X pins σ0 Q) X.xe s := fun ha hb o =>
    ok_eq B.room.units pins s σ0 H x y v u Q I rx ry ⟨ι, vs, M, σ, _, _, hr, ha, hb, o⟩
  unfold opEqW at o
  split at o
  · split at o
    case isFalse => exact o.elim
    rename_i hxy
    obtain ⟨rfl, hm⟩ := hxy
    rw [vr_glo] at ha hb
    obtain ⟨f, e1, rfl⟩ := ha
    obtain ⟨g, e2, rfl⟩ := hb
    rw [e1] at e2; cases e2
    cases rx; cases ry
    obtain ⟨of, l1, l2⟩ := G.ok _ _ hm e1
    have hT : s.TypeIs (.ref f) "function" := ⟨of, I.kIn _ _ l1, l2⟩
    show wpAny _ _ (richCompare .Eq _ _) _ _ s
    exact wpAny_richCompare_same_room (T := "function") hT hT slot_fn_eq
      (GQ.call_here slot_fn_eq hT PySem.F.entry_object_eq (PySem.F.args_object_eq_2 _ _) (objEq_entry_same (show (Value.bool true ≠ .notImplemented ∧ EP X pins σ0 Q (.bool true) s) from ⟨(by intro e; cases e), .bl true, H, I, rfl, Out.fin hr o (by rw [vr_bl])⟩))) B.room.units0
  · split at o
    case isFalse => exact base ha hb o
    rename_i i j hij
    obtain ⟨h1, h2⟩ := hij
    have ge : ∀ {i : Nat} {p : Addr}, insOf M i = some c → ι[i]? = some p → ∃ C dx gs, X.mg c = some (.ref C) ∧ H p = some (.ins C dx gs) := fun {i p} h ei => by
      unfold insOf at h
      split at h
      case h_2 => cases h
      rename_i c' fs em
      cases h
      obtain ⟨C, dx, gs, k0, k1, _⟩ := hr.rep.at_ em ei
      exact ⟨C, dx, gs, k0, k1⟩
    have ha' := ha
    have hb' := hb
    rw [vr_ref] at ha hb
    obtain ⟨p, ep, rfl⟩ := ha
    obtain ⟨q, eq, rfl⟩ := hb
    obtain ⟨C, dx, gs, m1, hp⟩ := ge h1 ep
    obtain ⟨D, dy, gs', m2, hq⟩ := ge h2 eq
    rw [m1] at m2; cases m2
    cases rx; cases ry
    obtain ⟨f, fd, ps, f1, f2, f3, f4⟩ := E.ex C m1
    obtain ⟨mA, J, _⟩ := ins_get I.hok hp
    obtain ⟨mB, J', _⟩ := ins_get I.hok hq
    obtain ⟨od, J, _⟩ := J.look
    obtain ⟨od', J', _⟩ := J'.look
    obtain ⟨m, hF⟩ := I.fr
    show wpAny _ _ (richCompare .Eq _ _) _ _ s
    refine PySem.W.cmp_K (op := .Eq) (tb := .ref C) B.room.units0 hF I.ok.mod.kin J J'.type (by simp [PySem.W.notFirst]) f1 f2 ?_
    have hsp : spF (kf X) 2 F [.ref p, .ref q] H (fun v H' => (∃ k, v = .bl k) ∧ Q v H') (fun _ _ _ => False) := by
      refine ⟨rfl, ι, M, _, hr.rep, .cons (show SVR (kf X) ι H (.val (.ref i)) _ from ha') (.cons (show SVR (kf X) ι H (.val (.ref j)) _ from hb') .nil), ?_⟩
      unfold blR at o
      cases e : F [.val (.ref i), .val (.ref j)] M with
      | ok a M' =>
        rw [e] at o
        cases a with
        | bl kk =>
          refine fun ι' H' v h1 h2 h3 h4 => ?_
          have h4' := h4
          rw [vr_bl] at h4'
          exact ⟨⟨kk, h4'⟩, o ι' H' v h1 h2 ⟨hr.sl.mono h1 h2, h3⟩ h4⟩
        | _ => exact o.elim
      | exc c' fs M' => rw [e] at o; exact o.elim
      | bad => rw [e] at o; exact o
    have hl := f3.len _ _ _ _ hsp
    have r2 : Vals [V.ref p, V.ref q] [Value.ref p, Value.ref q] := .cons rfl (.cons rfl .nil)
    refine wpAny_call (codeAny_mono (f3.run X.A X.stack s H ⟨[.ref p, .ref q], []⟩ [.ref p, .ref q] [.ref p, .ref q] _ (fun _ _ _ => False) B.room B.gd I.env0 (by
      have := f4 s [.ref p, .ref q] I.kIn (by simpa using hl)
      simpa using this) r2 hsp) fun r s' hq => ?_)
    cases r with
    | error e => exact B.tk e s' (XE.of_call I (fun _ _ _ h => h.elim) hq)
    | ok fl =>
      cases fl with
      | ret w =>
        obtain ⟨z, H', I', rz, ⟨kk, ez⟩, ex⟩ := I.after hq
        subst ez
        cases rz
        exact ⟨.bl kk, H', I', rfl, ex⟩
      | next => exact False.elim hq
      | brk => exact False.elim hq
      | cont => exact False.elim hq
  · exact base ha hb o
end
end AM
end

section
set_option Elab.async false
set_option linter.all false
set_option autoImplicit false
set_option maxRecDepth 100000
set_option maxHeartbeats 4000000
/-! AM 16: isinstance. -/
namespace AM
open PySem PySem.Spec

theorem slot_fn_getattribute : Slot "function" "__getattribute__" "object.__getattribute__" :=
  .of (owner := "object") (n := "__getattribute__") (by rw [typeLookup_type, builtinLookup_eq_fast]; kernel_rfl) (by decide +kernel) (by decide +kernel) (by decide +kernel)
    (by first | exact .inl (by decide +kernel) | exact .inr (by decide +kernel)) (by rw [isSubtype_type]; kernel_rfl)
theorem lk_fn_class : typeLookup (.type "function") "__class__" = pure (some (.builtin "object.__class__")) := by rw [typeLookup_type, builtinLookup_eq_fast]; kernel_rfl
theorem sub_fn_class_owner : isSubtype (.type "function") (.type (".".intercalate ("object.__class__".cutAt '.').dropLast)) = pure true := by
  rw [F.owner_object_class, isSubtype_type]; kernel_rfl
section
variable {prog : Program} {w : World} {A : Around} {E : Value → Shared → Prop} {h : Heap} {g : Array GenState} {d : Drawn} {t : Nat} {os : OsState} {a : Addr} {o : Obj}
theorem class_get_fn {R : Result → Shared → Prop} (hx : h.get? a = some o) (hc : o.cls = .type "function") (hq : R (.ok (.ret (.type "function"))) ⟨h, g, d, t, os⟩) :
    codeAny (model prog w) A (.call (.builtin "getset_descriptor.__get__") ⟨[.builtin "object.__class__", .ref a, .type "function"], []⟩) R ⟨h, g, d, t, os⟩ := by
  have hT : (⟨h, g, d, t, os⟩ : Shared).TypeIs (.ref a) "function" := ⟨_, hx, hc⟩
  have hT5 : (⟨h, g, d, t, os⟩ : Shared).TypeIs (.builtin "object.__class__") "getset_descriptor" := F.typeOf_object_class
  have f8 := sub_fn_class_owner
  refine codeAny_call_builtin F.slot_gs_get.plain F.entry_gs_get (F.slot_gs_get.check _ _ _ _ _ _ _ _ hT5 (F.args_gs_get _ _ _) ?_)
  repeat (any_goals (first | assumption | wp_step))
  refine ⟨Code.quiet_builtin _ (by decide +kernel), codeAny_builtin F.entry_object_class ?_⟩
  repeat (any_goals (first | assumption | wp_step))
theorem class_entry_fn {tk : Tok} {Q : Fin → Shared → Prop} (hx : h.get? a = some o) (hc : o.cls = .type "function") (hq : Q (.done (.ret (.type "function"))) ⟨h, g, d, t, os⟩) :
    wpAny (model prog w) A (Builtin.«object.__getattribute__» ⟨[.ref a, .str "__class__" tk], []⟩) Q E ⟨h, g, d, t, os⟩ := by
  have hT : (⟨h, g, d, t, os⟩ : Shared).TypeIs (.ref a) "function" := ⟨_, hx, hc⟩
  have hT5 : (⟨h, g, d, t, os⟩ : Shared).TypeIs (.builtin "object.__class__") "getset_descriptor" := F.typeOf_object_class
  have f4 := lk_fn_class
  have f5 := F.typeOf_object_class
  have f6 := F.slot_gs_get.lookup
  have f7 := F.slot_gs_set.lookup
  repeat (any_goals (first | assumption | wp_step))
  refine class_get_fn hx hc ?_
  repeat (any_goals (first | assumption | wp_step))
theorem class_call_fn {tk : Tok} {R : Result → Shared → Prop} (hx : h.get? a = some o) (hc : o.cls = .type "function") (hq : R (.ok (.ret (.type "function"))) ⟨h, g, d, t, os⟩) :
    codeAny (model prog w) A (.call (.builtin "object.__getattribute__") ⟨[.ref a, .str "__class__" tk], []⟩) R ⟨h, g, d, t, os⟩ :=
  codeAny_call_builtin slot_fn_getattribute.plain F.entry_object_getattribute (slot_fn_getattribute.check _ _ _ _ _ _ _ _ (show (⟨h, g, d, t, os⟩ : Shared).TypeIs (.ref a) "function" from ⟨_, hx, hc⟩) (F.args_object_getattribute_2 _ _) (class_entry_fn hx hc hq))
theorem class_by_fn {tk : Tok} {Q : Value → Shared → Prop} (hx : h.get? a = some o) (hc : o.cls = .type "function") (hq : Q (.type "function") ⟨h, g, d, t, os⟩) : wpAny (model prog w) A (getAttrBy (.ref a) (.str "__class__" tk) false) Q E ⟨h, g, d, t, os⟩ := by
  have hT : (⟨h, g, d, t, os⟩ : Shared).TypeIs (.ref a) "function" := ⟨_, hx, hc⟩
  have f2 := slot_fn_getattribute.lookup
  have f3 := slot_fn_getattribute.bind (.ref a)
  repeat (any_goals (first | assumption | wp_step))
  refine class_call_fn hx hc ?_
  repeat (any_goals (first | assumption | wp_step))
theorem class_attr_fn {Q : Option Value → Shared → Prop} (hx : h.get? a = some o) (hc : o.cls = .type "function") (hq : Q (some (.type "function")) ⟨h, g, d, t + 1, os⟩) : wpAny (model prog w) A (getAttr? (.ref a) "__class__") Q E ⟨h, g, d, t, os⟩ := by
  unfold getAttr? getAttrBy?
  repeat (any_goals (first | assumption | with_reducible apply class_by_fn hx hc | wp_step))
end
theorem kitx_fn {K : PySem.W.Frag} {a : Addr} : PySem.W.KitX K (.ref a) (.type "function") (PySem.W.KitAt a "function") :=
  PySem.W.kitx_of PySem.W.kitAt_ty (fun {_ _ _ _ _ s} p k => by obtain ⟨h, g, d, t, os⟩ := s; obtain ⟨o, h1, h2⟩ := p; exact class_attr_fn h1 h2 k)

open L2
/-- kinds -/
inductive AT where
  | non | bl | int | str | tup | lst | dct | fn | own (c : Str)
def AT.nm : AT → String
  | .non => "NoneType" | .bl => "bool" | .int => "int" | .str => "str" | .tup => "tuple" | .lst => "list" | .dct => "dict" | .fn => "function" | .own _ => ""
def tyA (fns ws : List Str) (M : AH) : AV → Option AT
  | .non => some .non
  | .bl _ => some .bl
  | .int _ => some .int
  | .str _ => some .str
  | .tup _ => some .tup
  | .glo x => if x ∈ fns then some .fn else none
  | .ref i => match M[i]? with
    | some (.lst _) => some .lst
    | some (.frz _) => some .lst
    | some (.dct _) => some .dct
    | some (.ins c _) => if c ∈ ws then some (.own c) else none
    | none => none
  | .ty _ => none
def isBi (t : AT) (b : String) : Option Bool := match b with
  | "int" => some (match t with | .int => true | .bl => true | _ => false)
  | "bool" => some (match t with | .bl => true | _ => false)
  | "list" => some (match t with | .lst => true | _ => false)
  | "tuple" => some (match t with | .tup => true | _ => false)
  | "dict" => some (match t with | .dct => true | _ => false)
  | "str" => some (match t with | .str => true | _ => false)
  | _ => none
def isOne (ws : List Str) (t : AT) : AV → Option Bool
  | .ty b => isBi t b
  | .glo d => if d ∈ ws then match t with
      | .own c => if c = d then some true else none
      | _ => some false
    else none
  | _ => none
def isAny (ws : List Str) (t : AT) : List AV → Option Bool
  | [] => some false
  | c :: r => match isOne ws t c with
    | some true => some true
    | some false => isAny ws t r
    | none => none
def isCls (ws : List Str) (t : AT) (c : AV) : Option Bool := match c with
  | .tup cs => isAny ws t cs
  | c => isOne ws t c
def isA (fns ws : List Str) (as : List AV) (M : AH) : R AV := match as with
  | [x, c] => match tyA fns ws M x with
    | some t => match isCls ws t c with
      | some b => .ok (.bl b) M
      | none => .bad
    | none => .bad
  | _ => .bad
def biL : List String := ["int", "bool", "list", "tuple", "dict", "str"]
/-- what the written part says of own classes -/
structure IsF (κ : Cfg) (ws : List Str) : Prop where
  ok : ∀ c C, c ∈ ws → κ.mg c = some (.ref C) → Cls κ.K C ∧ PySem.W.findIn κ.K (.ref C) "__class__" = some (some (.builtin "object.__class__")) ∧ PySem.W.specialIn κ.K (.builtin "object.__class__") "__get__" = some (some (.builtin "getset_descriptor.__get__")) ∧
    PySem.W.takesIn κ.K (.builtin "object.__class__") = some true ∧ PySem.W.mroIn κ.K C (.type "object") = some true ∧ (∀ b ∈ biL, PySem.W.kitOne κ.K (.ref C) (.type b) = some false) ∧
    (∀ a ∈ ["NoneType", "bool", "int", "str", "tuple", "list", "dict", "function"], PySem.W.kitOne κ.K (.type a) (.ref C) = some false)
/-- a kind's class -/
def TV (κ : Cfg) : AT → Value → Prop
  | .own c, v => ∃ C, κ.mg c = some (.ref C) ∧ v = .ref C
  | t, v => v = .type t.nm
def CV (κ : Cfg) : AV → Value → Prop
  | .ty b, v => v = .type b
  | .glo d, v => ∃ D, κ.mg d = some (.ref D) ∧ v = .ref D
  | _, _ => False
theorem kitB_ok {K : PySem.W.Frag} {a b : String} {r : Bool} (h : kitB a b = some r) : PySem.W.kitOne K (.type a) (.type b) = some r := h
theorem one_ok {κ : Cfg} {ws : List Str} (F : IsF κ ws) {t : AT} {tv : Value} (ht : TV κ t tv) (hw : ∀ c, t = .own c → c ∈ ws) {c : AV} {cv : Value} {b : Bool} (hc : CV κ c cv) (e : isOne ws t c = some b) : PySem.W.kitOne κ.K tv cv = some b := by
  cases c with
  | ty y =>
    have hc : cv = .type y := hc
    subst hc
    have e : isBi t y = some b := e
    unfold isBi at e
    split at e
    all_goals first | (cases e; done) | skip
    all_goals
      injection e with e
      subst e
      cases t with
      | own c =>
        obtain ⟨C, m, rfl⟩ := ht
        exact (F.ok c C (hw c rfl) m).2.2.2.2.2.1 _ (by decide)
      | _ =>
        have ht : tv = .type _ := ht
        subst ht
        exact kitB_ok (by decide +kernel)
  | glo d =>
    obtain ⟨D, m, rfl⟩ := hc
    unfold isOne at e
    dsimp only at e
    split at e
    case isFalse => cases e
    rename_i hd
    cases t with
    | own c =>
      dsimp only at e
      split at e
      case isFalse => cases e
      rename_i hcd
      subst hcd
      cases e
      obtain ⟨C, m', rfl⟩ := ht
      rw [m] at m'; cases m'
      unfold PySem.W.kitOne
      simp
    | _ =>
      cases e
      have ht : tv = .type _ := ht
      subst ht
      exact (F.ok d D hd m).2.2.2.2.2.2 _ (by decide)
  | _ => exact hc.elim
theorem any_ok {κ : Cfg} {ws : List Str} (F : IsF κ ws) {t : AT} {tv : Value} (ht : TV κ t tv) (hw : ∀ c, t = .own c → c ∈ ws) : ∀ {cs : List AV} {cvs : List Value} {b : Bool}, Paired (CV κ) cs cvs → isAny ws t cs = some b → PySem.W.kitAny κ.K tv cvs = some b
  | _, _, b, .nil, e => e
  | _, _, b, .cons h r, e => by
    unfold isAny at e
    unfold PySem.W.kitAny
    split at e
    · rename_i e1; rw [one_ok F ht hw h e1]; exact e
    · rename_i e1; rw [one_ok F ht hw h e1]; exact any_ok F ht hw r e
    · cases e
section
variable [Tb] {X : Cx} {W : WX} {fns ws : List Str}
theorem one_cv {κ : Cfg} {ι : List Addr} {H : Hp} {t : AT} {c : AV} {b : Bool} {v : V} {u : Value} (e : isOne ws t c = some b) (h : VR κ ι H c v) (r : RelV v u) : CV κ c u := by
  cases c with
  | ty y => rw [vr_ty] at h; subst h; exact r
  | glo d => rw [vr_glo] at h; obtain ⟨f, m, rfl⟩ := h; cases r; exact ⟨f, m, rfl⟩
  | _ => cases e
theorem any_cv {κ : Cfg} {ι : List Addr} {H : Hp} {t : AT} : ∀ {cs : List AV} {b : Bool} {vs : List V} {us : List Value}, isAny ws t cs = some b → VRs κ ι H cs vs → Vals vs us → ∃ cs' us', isAny ws t cs' = some b ∧ Paired (CV κ) cs' us' ∧ ∃ more, us = us' ++ more ∧ (b = false → more = [])
  | [], b, vs, us, e, h, r => by
    obtain rfl := h.nil_inv
    cases r
    exact ⟨[], [], e, .nil, [], rfl, fun _ => rfl⟩
  | c :: cs, b, vs, us, e, h, r => by
    obtain ⟨v, ws', rfl, h1, h2⟩ := h.cons_inv
    cases r with
    | @cons _ u _ us r1 r2 =>
      have e0 := e
      unfold isAny at e
      split at e
      · rename_i e1
        cases e
        refine ⟨[c], [u], ?_, .cons (one_cv e1 h1 r1) .nil, us, rfl, fun z => by cases z⟩
        unfold isAny; rw [e1]
      · rename_i e1
        obtain ⟨cs', us', k1, k2, more, k3, k4⟩ := any_cv e h2 r2
        refine ⟨c :: cs', u :: us', ?_, .cons (one_cv e1 h1 r1) k2, more, by rw [k3]; rfl, k4⟩
        unfold isAny; rw [e1]; exact k1
      · cases e
theorem kitAny_app {K : PySem.W.Frag} {t : Value} : ∀ {us more : List Value} {b : Bool}, PySem.W.kitAny K t us = some b → (b = false → more = []) → PySem.W.kitAny K t (us ++ more) = some b
  | [], more, b, e, h => by
    cases e
    rw [h rfl]; rfl
  | u :: us, more, b, e, h => by
    rw [List.cons_append]
    unfold PySem.W.kitAny at e ⊢
    split at e
    · exact e
    · exact kitAny_app e h
    · cases e
theorem kit_av {pins : List (Addr × Obj)} {σ0 : L2.St} {H : Hp} {s : Shared} {ι : List Addr} {M : AH} {a : AV} {x : V} {u : Value} {t : AT} (I : Inv X pins σ0 H s) (G : GloFn (kf X) fns) (F : IsF (kf X) ws) (rep : Rep (kf X) ι M H) (h : VR (kf X) ι H a x) (r : RelV x u) (e : tyA fns ws M a = some t) :
    ∃ (P : Heap → Prop) (tv : Value), PySem.W.KitX X.K u tv P ∧ P s.heap ∧ u ≠ .builtin "__main__.__loader__#opaque" ∧ TV (kf X) t tv ∧ ∀ c, t = .own c → c ∈ ws := by
  cases a with
  | non => cases e; rw [vr_non] at h; subst h; cases (show u = Value.none from r); exact ⟨_, _, PySem.W.kitx_none, True.intro, (fun z => nomatch z), rfl, fun c z => by cases z⟩
  | bl y => cases e; rw [vr_bl] at h; subst h; cases (show u = Value.bool y from r); exact ⟨_, _, PySem.W.kitx_bool, True.intro, (fun z => nomatch z), rfl, fun c z => by cases z⟩
  | int y => cases e; rw [vr_int] at h; subst h; obtain ⟨t, q⟩ := (show ∃ t, u = Value.int y t from r); cases q; exact ⟨_, _, PySem.W.kitx_int, True.intro, (fun z => nomatch z), rfl, fun c z => by cases z⟩
  | str y => cases e; rw [vr_str] at h; subst h; obtain ⟨t, q⟩ := (show ∃ t, u = Value.str y t from r); cases q; exact ⟨_, _, PySem.W.kitx_str, True.intro, (fun z => nomatch z), rfl, fun c z => by cases z⟩
  | tup xs =>
    cases e
    rw [vr_tup] at h
    obtain ⟨p, vs, rfl, hp, _⟩ := h
    cases (show u = Value.ref p from r)
    obtain ⟨its, rv, ht, _⟩ := I.tuple hp
    obtain ⟨o, ho, hc, n, hd⟩ := ht
    exact ⟨_, _, PySem.W.kitx_tuple, ⟨o, ho, hc⟩, (fun z => nomatch z), rfl, fun c z => by cases z⟩
  | glo y =>
    unfold tyA at e
    dsimp only at e
    split at e
    case isFalse => cases e
    rename_i hm
    cases e
    rw [vr_glo] at h
    obtain ⟨f, m, rfl⟩ := h
    cases (show u = Value.ref f from r)
    obtain ⟨o, l1, l2⟩ := G.ok y f hm m
    exact ⟨_, _, kitx_fn, ⟨o, I.kIn _ _ l1, l2⟩, (fun z => nomatch z), rfl, fun c z => by cases z⟩
  | ty y => cases e
  | ref i =>
    rw [vr_ref] at h
    obtain ⟨p, ep, rfl⟩ := h
    cases (show u = Value.ref p from r)
    unfold tyA at e
    dsimp only at e
    cases em : M[i]? with
    | none => rw [em] at e; cases e
    | some o =>
      rw [em] at e
      have ho := rep.at_ em ep
      cases o with
      | lst xs =>
        cases e
        obtain ⟨vs, h1, _⟩ := ho
        obtain ⟨_, _, n, _, h2⟩ := I.hok p _ h1
        exact ⟨_, _, PySem.W.kitx_list, ⟨_, h2, rfl⟩, (fun z => nomatch z), rfl, fun c z => by cases z⟩
      | frz xs =>
        cases e
        obtain ⟨ob, vs, h1, _⟩ := ho
        obtain ⟨_, _, _, n, _, h2⟩ := I.hok p _ h1
        exact ⟨_, _, PySem.W.kitx_list, ⟨_, h2, rfl⟩, (fun z => nomatch z), rfl, fun c z => by cases z⟩
      | dct kvs =>
        cases e
        rcases ho with ⟨gs, h1, _⟩ | ⟨ks, h1, _⟩
        · obtain ⟨_, _, vs, _, o, es, ep2, h2, h3, _⟩ := I.hok p _ h1
          exact ⟨_, _, PySem.W.kitx_dict, ⟨o, h2, h3.1⟩, (fun z => nomatch z), rfl, fun c z => by cases z⟩
        · obtain ⟨⟨_, _, o, es, ep2, xs, h2, h3, _⟩, _⟩ := I.hok p _ h1
          exact ⟨_, _, PySem.W.kitx_dict, ⟨o, h2, h3.1⟩, (fun z => nomatch z), rfl, fun c z => by cases z⟩
      | ins c fs =>
        dsimp only at e
        split at e
        case isFalse => cases e
        rename_i hm
        cases e
        obtain ⟨C, dx, gs, k0, k1, _⟩ := ho
        obtain ⟨cl, ha, hn, htk, hmr, _⟩ := F.ok c C hm k0
        obtain ⟨mA, O, _⟩ := ins_get I.hok k1
        obtain ⟨od, J, _⟩ := O.look
        exact ⟨_, _, PySem.W.kitx_own (cl.get _) cl.hd ha hn htk hmr, J, (fun z => nomatch z), ⟨C, k0, rfl⟩, fun c z => by cases z; exact hm⟩
theorem cr_isa (G : GloFn (kf X) fns) (F : IsF (kf X) ws) : CallR X (.builtin "isinstance") (rdN (kf X) W (isA fns ws)) := by
  intro pins s σ0 H xs us Q I r ⟨ι, vs, M, σ, as, hr, ha, o⟩
  unfold isA at o
  split at o
  case h_2 => exact o.elim
  rename_i x c
  split at o
  case h_2 => exact o.elim
  rename_i t et
  split at o
  case h_2 => exact o.elim
  rename_i b eb
  obtain ⟨vx, ws1, rfl, h1, h2⟩ := ha.cons_inv
  obtain ⟨vc, ws2, rfl, h3, h4⟩ := h2.cons_inv
  obtain rfl := h4.nil_inv
  obtain ⟨u1, u2, rfl, r1, r2⟩ := vals2 r
  obtain ⟨P, tv, Z, p, hx, hT, hw⟩ := kit_av I G F hr.rep h1 r1 et
  have fin : ∀ tk, EP X pins σ0 Q (.bool b) { s with toks := tk } := fun tk => ⟨.bl b, H, I.tok tk, rfl, Out.fin hr o (by rw [vr_bl])⟩
  unfold isCls at eb
  split at eb
  · rename_i cs
    rw [vr_tup] at h3
    obtain ⟨tp, vs', rfl, hp, hcs⟩ := h3
    cases (show u2 = Value.ref tp from r2)
    obtain ⟨its, rv, ht, _⟩ := I.tuple hp
    obtain ⟨⟨oc, od, dt, sl⟩, ho, hc, n, hd⟩ := ht
    simp only at hc hd
    subst hc hd
    obtain ⟨cs', us', k1, k2, more, k3, k4⟩ := any_cv eb hcs rv
    have kk := kitAny_app (any_ok F hT hw k2 k1) k4
    rw [← k3] at kk
    exact PySem.W.kia_tup Z I.kIn p ho kk hx fin
  · exact PySem.W.kia_one Z I.kIn p (one_ok F hT hw (one_cv eb h3 r2) eb) hx fin
end
end AM
end

section
set_option Elab.async false
set_option linter.all false
set_option autoImplicit false
set_option maxRecDepth 100000
set_option maxHeartbeats 4000000
/-! AM 17: list comprehensions. -/
namespace AM
open PySem PySem.Spec L2

/-! ### slots of its own -/
def wipeL (vs : Loc) : List Nat → Loc
  | [] => vs
  | j :: js => (wipeL vs js).set j none
theorem wipe_out {σ : L2.St} {i : Nat} : ∀ {js : List Nat}, i ∉ js → (wipe σ js)[i]? = σ[i]?
  | [], _ => rfl
  | j :: js, h => by
    unfold wipe
    rw [List.mem_cons, not_or] at h
    rw [List.getElem?_set_ne (Ne.symm h.1)]
    exact wipe_out h.2
theorem wipeL_len {vs : Loc} : ∀ {js : List Nat}, (wipeL vs js).length = vs.length
  | [] => rfl
  | j :: js => by unfold wipeL; rw [List.length_set, wipeL_len]
theorem wipeL_some {vs : Loc} {i : Nat} {x : SV} : ∀ {js : List Nat}, (wipeL vs js)[i]? = some (some x) → vs[i]? = some (some x) ∧ i ∉ js
  | [], h => ⟨h, by simp⟩
  | j :: js, h => by
    unfold wipeL at h
    by_cases hi : j = i
    · subst hi
      rw [List.getElem?_set] at h
      simp at h
    · rw [List.getElem?_set_ne hi] at h
      obtain ⟨h1, h2⟩ := wipeL_some h
      exact ⟨h1, by simp only [List.mem_cons, not_or]; exact ⟨fun e => hi e.symm, h2⟩⟩
theorem SLs.wipe {κ : Cfg} {ι : List Addr} {H : Hp} {vs : Loc} {σ : L2.St} (h : SLs κ ι H vs σ) (js : List Nat) : SLs κ ι H (wipeL vs js) (L2.wipe σ js) :=
  ⟨by rw [wipeL_len, wipe_length]; exact h.len, fun i sv e => by
    obtain ⟨e1, e2⟩ := wipeL_some e
    obtain ⟨v, e3, r⟩ := h.at_ i sv e1
    exact ⟨v, (wipe_out e2).trans e3, r⟩⟩
theorem wipe_get_in {σ : L2.St} {i : Nat} : ∀ {js : List Nat}, i ∈ js → i < σ.length → (wipe σ js)[i]? = some none
  | j :: js, h, hl => by
    unfold wipe
    by_cases hi : j = i
    · subst hi
      rw [List.getElem?_set_self (by rw [wipe_length]; exact hl)]
    · rw [List.getElem?_set_ne hi]
      rcases List.mem_cons.mp h with e | h
      · exact absurd e.symm hi
      · exact wipe_get_in h hl
theorem wipe_ext {σ σ' : L2.St} {js : List Nat} (hl : σ.length = σ'.length) (h : ∀ i, i ∉ js → σ[i]? = σ'[i]?) : wipe σ js = wipe σ' js := by
  apply List.ext_getElem?
  intro i
  by_cases hi : i ∈ js
  · by_cases hb : i < σ.length
    · rw [wipe_get_in hi hb, wipe_get_in hi (by omega)]
    · rw [List.getElem?_eq_none (by rw [wipe_length]; omega), List.getElem?_eq_none (by rw [wipe_length]; omega)]
  · rw [wipe_out hi, wipe_out hi]; exact h i hi
theorem wipe_wipe {σ : L2.St} {js : List Nat} : wipe (wipe σ js) js = wipe σ js := wipe_ext (wipe_length _ _) fun i hi => wipe_out hi
/-! ### targets of a comprehension -/
section
variable (κ : Cfg)
/-- the target's end: only own slots have changed -/
def OutO (own : List Nat) (ι : List Addr) (σ : L2.St) (H : Hp) (Q : L2.St → Hp → Prop) : RS → Prop
  | .nx vs M => ∀ ι' H' σ', ι <+: ι' → Keep H H' → Rel κ ι' vs M σ' H' → wipe σ' own = wipe σ own → Q σ' H'
  | _ => False
def rdO (own : List Nat) (g : CG) : TG := fun v σ H Q => ∃ ι vs M a, Rel κ ι vs M σ H ∧ VR κ ι H a v ∧ OutO κ own ι σ H Q (g a vs M)
def rdOs (own : List Nat) (g : CGs) : TGs := fun xs σ H Q => ∃ ι vs M as, Rel κ ι vs M σ H ∧ VRs κ ι H as xs ∧ OutO κ own ι σ H Q (g as vs M)
end
section
variable [Tb] {X : Cx} {W : WX} {own : List Nat} {e : Expr} {x : Str} {pos : Pos} {g : CG} {gs : CGs}
abbrev EvTg [Tb] (X : Cx) (own : List Nat) (tg : Expr) (g : CG) : Prop := PG X tg (rdO (kf X) own g)
abbrev EvTgs [Tb] (X : Cx) (own : List Nat) (tg : List Expr) (g : CGs) : Prop := PGs X tg (rdOs (kf X) own g)
theorem eo_name (i : Nat) (hN : X.N.Nodup) (ho : i ∈ own) (hi : X.N[i]? = some x := by rfl) (hx : L2.Loc X.env.scope x := by first | exact .inl rfl | exact .inr rfl) (hf : X.fn x = true ∨ X.env.scope.names.lookup x = some .local := by first | exact .inl rfl | exact .inr rfl) : EvTg X own (.Name x pos) (nameG i) :=
  ⟨fun pins s σ H v u Q I r ⟨ι, vs, M, a, hr, ha, o⟩ => (pg_name hN hi hx hf).run pins s σ H v u Q I r (o ι H _ (List.prefix_refl _) (Keep.refl _) (hr.slot ha) (wipe_ext (by simp) fun j hj => List.getElem?_set_ne (fun z : i = j => hj (by rw [← z]; exact ho))))⟩
theorem eos_nil : EvTgs X own [] nilG := ⟨fun pins s σ H xs us Q I r ⟨ι, vs, M, as, hr, ha, o⟩ => by
  unfold nilG at o
  split at o
  · obtain rfl := ha.nil_inv
    exact pgs_nil.run pins s σ H _ us Q I r ⟨rfl, o ι H σ (List.prefix_refl _) (Keep.refl _) hr rfl⟩
  · exact o.elim⟩
theorem eos_cons {es : List Expr} (h1 : EvTg X own e g) (h2 : EvTgs X own es gs) (hs : (assignEach (e :: es) X.env).map (·.2) = assign e X.env :: (assignEach es X.env).map (·.2) := by rfl) : EvTgs X own (e :: es) (consG g gs) :=
  ⟨fun pins s σ H xs us Q I r ⟨ι, vs, M, as, hr, ha, o⟩ => by
    unfold consG at o
    split at o
    · rename_i a as
      obtain ⟨v, ws, rfl, g1, g2⟩ := ha.cons_inv
      refine (pgs_cons h1 h2 hs).run pins s σ H _ us Q I r ⟨v, ws, rfl, ι, vs, M, a, hr, g1, ?_⟩
      cases q : g a vs M with
      | nx vs1 M1 =>
        rw [q] at o
        refine fun ι' H' σ' h1 h2 h3 h4 => ⟨ι', vs1, M1, as, h3, g2.mono h1 h2, ?_⟩
        have o : OutO (kf X) own ι σ H Q (gs as vs1 M1) := o
        cases q2 : gs as vs1 M1 with
        | nx vs2 M2 => rw [q2] at o; exact fun ι2 H2 σ2 k1 k2 k3 k4 => o ι2 H2 σ2 (h1.trans k1) (h2.trans k2) k3 (k4.trans h4)
        | bk a b => rw [q2] at o; exact o.elim
        | ct a b => rw [q2] at o; exact o.elim
        | rt a b => rw [q2] at o; exact o.elim
        | exc a b c d => rw [q2] at o; exact o.elim
        | bad => rw [q2] at o; exact o.elim
      | bk a b => rw [q] at o; exact o.elim
      | ct a b => rw [q] at o; exact o.elim
      | rt a b => rw [q] at o; exact o.elim
      | exc a b c d => rw [q] at o; exact o.elim
      | bad => rw [q] at o; exact o.elim
    · exact o.elim⟩
theorem eo_tup {es : List Expr} {k n : Nat} (hc : X.calm = true) (h : EvTgs X own es gs) (hn : (assignEach es X.env).length = n := by rfl) (hst : (assignEach es X.env).findIdx? (·.1) = none := by rfl) : EvTg X own (.Tuple es k pos) (tupG n gs) :=
  ⟨fun pins s σ H v u Q I r ⟨ι, vs, M, a, hr, ha, o⟩ => by
    unfold tupG at o
    split at o
    · rename_i xs
      split at o
      · rename_i hl
        rw [vr_tup] at ha
        obtain ⟨p, ws, rfl, hp, hw⟩ := ha
        exact (pg_tup hc h hn hst).run pins s σ H _ u Q I r ⟨p, ws, rfl, hp, by rw [← hw.length]; exact hl, ι, vs, M, xs, hr, hw, o⟩
      · exact o.elim
    · exact o.elim⟩
end
/-! ### the loop -/
def yesT : CT := fun _ M => .ok true M
def runG (g : CG) (a : AV) (vs : Loc) (M : AH) (k : Loc → AH → R AV) : R AV := match g a vs M with
  | .nx vs1 M1 => k vs1 M1
  | _ => .bad
def thenR {α β : Type} (r : R α) (k : α → AH → R β) : R β := match r with
  | .ok a M => k a M
  | _ => .bad
/-- y goes to the list at d -/
def pushA (d : Nat) (y : AV) (M : AH) (k : AH → R AV) : R AV := match M[d]? with
  | some (.lst acc) => if acc.length < sizeLine then k (M.set d (.lst (acc ++ [y]))) else .bad
  | _ => .bad
def lcL (it : IT) (d : Nat) (own : List Nat) (g : CG) (t : CT) (ce : CE) (vs : Loc) : List AV → AH → R AV
  | [], M => if it.ok M = true then .ok (.ref d) M else .bad
  | x :: xs, M => if it.ok M = true then runG g x (wipeL vs own) M fun vs1 M1 => thenR (t vs1 M1) fun b M2 => if b = true then thenR (ce vs1 M2) fun y M3 => pushA d y M3 (lcL it d own g t ce vs xs) else lcL it d own g t ce vs xs M2 else .bad
def lcC (own : List Nat) (ci : CI) (g : CG) (t : CT) (ce : CE) : CE := fun vs M => (ci vs M).bind fun it M1 => lcL it M1.length own g t ce vs it.items (M1 ++ [.lst []])
section
variable [Tb] {X : Cx} {W : WX} {own : List Nat} {g : CG} {t : CT} {ce : CE} {ci : CI}
theorem Out.base {α β : Type} {rel : List Addr → Hp → α → β → Prop} {κ : Cfg} {ι ι' : List Addr} {vs : Loc} {σ : L2.St} {H H' : Hp} {Q : β → Hp → Prop} {r : R α} (o : Out κ W rel ι vs σ H Q r) (p : ι <+: ι') (k : Keep H H') : Out κ W rel ι' vs σ H' Q r := by
  cases r with
  | ok a M' => exact fun ι2 H2 b k1 k2 k3 k4 => o ι2 H2 b (p.trans k1) (k.trans k2) k3 k4
  | exc c fs M' => exact fun ι2 H2 C d k1 k2 k3 k4 => o ι2 H2 C d (p.trans k1) (k.trans k2) k3 k4
  | bad => exact o
theorem Out.thenR {α α' β β' : Type} {rel : List Addr → Hp → α → β → Prop} {rel' : List Addr → Hp → α' → β' → Prop} {κ : Cfg} {ι : List Addr} {vs vs' : Loc} {σ σ' : L2.St} {H : Hp} {Q : β' → Hp → Prop} {r : R α} {k : α → AH → R α'} (hs : SLs κ ι H vs σ) (o : Out κ W rel' ι vs σ H Q (AM.thenR r k)) :
    Out κ WF rel ι vs' σ' H (fun b H1 => ∃ ι1 a M1, ι <+: ι1 ∧ Keep H H1 ∧ Rel κ ι1 vs' M1 σ' H1 ∧ rel ι1 H1 a b ∧ Out κ W rel' ι1 vs σ H1 Q (k a M1)) r := by
  cases r with
  | ok a M' =>
    refine fun ι' H' b h1 h2 h3 h4 => ⟨ι', a, M', h1, h2, h3, h4, ?_⟩
    have o : Out κ W rel' ι vs σ H Q (k a M') := o
    cases hk : k a M' with
    | ok a2 M2 => rw [hk] at o; exact fun ι2 H2 b2 g1 g2 g3 g4 => o ι2 H2 b2 (h1.trans g1) (h2.trans g2) g3 g4
    | exc c fs M2 => rw [hk] at o; exact fun ι2 H2 C d g1 g2 g3 g4 => o ι2 H2 C d (h1.trans g1) (h2.trans g2) g3 g4
    | bad => rw [hk] at o; exact o
  | exc c fs M' => exact o.elim
  | bad => exact o.elim
theorem lc_read {wi : TI} {ι : List Addr} {vs : Loc} {M : AH} {σ : L2.St} {H : Hp} {Q : VK} (hw : ∀ σ H Q, rdI (kf X) W ci σ H Q → wi σ H Q) (hr : Rel (kf X) ι vs M σ H) (o : Out (kf X) W (VR (kf X)) ι vs σ H Q (lcC own ci g t ce vs M)) (hm : ∀ σ H (Q Q' : It → Hp → Prop), rdI (kf X) W ci σ H Q → (∀ J H', Q J H' → Q' J H') → rdI (kf X) W ci σ H Q') :
    tLc (rdI (kf X) W ci) (rdO (kf X) own g) (rdT (kf X) WF t) (rdE (kf X) WF ce) own σ H Q := by
  have h0 : rdI (kf X) W ci σ H fun J H1 => ∃ ι1 it M1, Rel (kf X) ι1 vs M1 σ H1 ∧ ItR (kf X) J ι1 H1 it ∧ Out (kf X) W (VR (kf X)) ι1 vs σ H1 Q (lcL it M1.length own g t ce vs it.items (M1 ++ [.lst []])) :=
    Out.run hr o fun ι1 it M1 J H1 h1 h2 h3 h4 h5 => ⟨ι1, it, M1, h3, h4, h5⟩
  refine hm _ _ _ _ h0 fun J H1 ⟨ι1, it, M1, h3, h4, h5⟩ D hD => ?_
  have kD : Keep H1 (upd H1 D (.lst [])) := Keep.new hD
  have r0 : Rel (kf X) (ι1 ++ [D]) vs (M1 ++ [.lst []]) σ (upd H1 D (.lst [])) := h3.snoc hD ⟨[], upd_same, .nil⟩
  have dD : (ι1 ++ [D])[M1.length]? = some D := by rw [← h3.rep.len]; simp
  refine ⟨fun i m H' => m = it.items.length - i ∧ i ≤ it.items.length ∧ ∃ ι' M', (ι1 ++ [D]) <+: ι' ∧ Keep (upd H1 D (.lst [])) H' ∧ Rep (kf X) ι' M' H' ∧ Out (kf X) W (VR (kf X)) ι' vs σ H' Q (lcL it M1.length own g t ce vs (it.items.drop i) M'), ⟨_, rfl, Nat.zero_le _, _, _, List.prefix_refl _, Keep.refl _, r0.rep, ?_⟩, ?_⟩
  · have o' : Out (kf X) W (VR (kf X)) (ι1 ++ [D]) vs σ (upd H1 D (.lst [])) Q (lcL it M1.length own g t ce vs it.items (M1 ++ [.lst []])) := by
      exact h5.base (List.prefix_append _ _) kD
    simpa using o'
  · rintro i m H' ⟨rfl, hi, ι', M', k1, k2, k3, k4⟩
    have dI : ι'[M1.length]? = some D := pre_get k1 dD
    have sl : SLs (kf X) ι' H' vs σ := h3.sl.mono ((List.prefix_append _ _).trans k1) (kD.trans k2)
    by_cases hlt : i < it.items.length
    · rw [List.drop_eq_getElem_cons hlt, lcL] at k4
      split at k4
      case isFalse => exact k4.elim
      rename_i hok
      obtain ⟨f1, f2⟩ := h4 i ι' M' H' ((List.prefix_append _ _).trans k1) (kD.trans k2) k3 hok
      obtain ⟨f3, f4⟩ := f1 _ (List.getElem?_eq_getElem hlt)
      refine .inr ⟨f3, fun H2 => ∃ ι2 M2, (ι1 ++ [D]) <+: ι2 ∧ Keep (upd H1 D (.lst [])) H2 ∧ Rep (kf X) ι2 M2 H2 ∧ Out (kf X) W (VR (kf X)) ι2 vs σ H2 Q (lcL it M1.length own g t ce vs (it.items.drop (i + 1)) M2), fun H2 ⟨ι2, M2, q1, q2, q3, q4⟩ => ⟨_, (by omega : it.items.length - (i + 1) < it.items.length - i), rfl, hlt, ι2, M2, q1, q2, q3, q4⟩, fun v H2 hy => ?_⟩
      obtain ⟨p1, p2, p3⟩ := f4 v H2 hy
      have rep2 := k3.keep p1 p2
      have sl2 := sl.mono (List.prefix_refl _) p1
      refine ⟨ι', wipeL vs own, M', _, ⟨sl2.wipe own, rep2⟩, p3, ?_⟩
      unfold runG at k4
      cases eg : g it.items[i] (wipeL vs own) M' with
      | nx vs1 M1' =>
        rw [eg] at k4
        dsimp only at k4
        refine fun ι3 H3 σ3 w1 w2 w3 w4 => ⟨w4.trans wipe_wipe, ?_⟩
        have kk : Keep H' H3 := p1.trans w2
        have sl3 : SLs (kf X) ι3 H3 vs σ := sl2.mono w1 w2
        have o3 : Out (kf X) W (VR (kf X)) ι3 vs σ H3 Q (AM.thenR (t vs1 M1') fun b M2 => if b = true then AM.thenR (ce vs1 M2) fun y M3 => pushA M1.length y M3 (lcL it M1.length own g t ce vs (it.items.drop (i + 1))) else lcL it M1.length own g t ce vs (it.items.drop (i + 1)) M2) := by
          exact k4.base w1 kk
        refine ⟨ι3, vs1, M1', w3, (Out.thenR (rel := relT) (vs' := vs1) (σ' := σ3) sl3 o3).imp fun ι' H'' b b' M'' _ _ _ _ ⟨ι4, b2, M2, c1, c2, c3, c4, c5⟩ => ?_⟩
        subst c4
        have P4 : (ι1 ++ [D]) <+: ι4 := (k1.trans w1).trans c1
        have K4 : Keep (upd H1 D (.lst [])) H'' := (k2.trans kk).trans c2
        cases b2 with
        | false =>
          rw [if_neg (by decide)] at c5 ⊢
          exact ⟨ι4, M2, P4, K4, c3.rep, c5⟩
        | true =>
          rw [if_pos rfl] at c5 ⊢
          refine ⟨ι4, vs1, M2, c3, (Out.thenR (rel := VR (kf X)) (vs' := vs1) (σ' := σ3) (sl3.mono c1 c2) c5).imp fun ι' H5 y y' M5 _ _ _ _ ⟨ι5, y2, M3, d1, d2, d3, d4, d5⟩ => ?_⟩
          unfold pushA at d5
          split at d5
          case h_2 => exact d5.elim
          rename_i acc eacc
          split at d5
          case isFalse => exact d5.elim
          rename_i hlen
          have dD5 : ι5[M1.length]? = some D := pre_get (P4.trans d1) dD
          obtain ⟨accV, e1, e2⟩ := d3.rep.at_ eacc dD5
          have hk : Keep H5 (upd H5 D (.lst (accV ++ [y']))) := Keep.mut e1 (fun _ z => by cases z) fun _ _ z => by cases z
          refine ⟨accV, e1, by rw [← e2.length]; exact hlen, ι5, _, P4.trans d1, (K4.trans d2).trans hk, d3.rep.set (o' := .lst (acc ++ [y2])) dD5 e1 hk ⟨_, upd_same, (e2.app (.cons d4 .nil)).mono (List.prefix_refl _) hk⟩ (fun _ z => by cases z), ?_⟩
          exact d5.base (List.prefix_refl _) hk
      | bk a b => rw [eg] at k4; exact k4.elim
      | ct a b => rw [eg] at k4; exact k4.elim
      | rt a b => rw [eg] at k4; exact k4.elim
      | exc a b c d => rw [eg] at k4; exact k4.elim
      | bad => rw [eg] at k4; exact k4.elim
    · have e : i = it.items.length := by omega
      subst e
      rw [List.drop_length, lcL] at k4
      split at k4
      case isFalse => exact k4.elim
      rename_i hok
      obtain ⟨f1, f2⟩ := h4 _ ι' M' H' ((List.prefix_append _ _).trans k1) (kD.trans k2) k3 hok
      exact .inl ⟨f2 rfl, Out.fin ⟨sl, k3⟩ k4 (by rw [vr_ref]; exact ⟨D, dI, rfl⟩)⟩
abbrev BlkC [Tb] (X : Cx) (scope : Scope) (P : Cx → Prop) : Prop := ∀ (s : Shared) (H : Hp) (C : Addr) (cl : List (Str × Addr)) (fp : List Addr), P (X.blk s H scope (compEnvC scope cl C X.env) fp)
theorem ev_lc {k : Nat} {elt tg iter : Expr} {ifs : List Expr} {scope : Scope} {ownp : List (Str × Nat)} {pos : Pos} (B : Be X W k) (hi : EvI X W tg iter ci) (ok : BlkOk X.N X.env.scope scope ownp)
    (hg : BlkC X scope fun Y => EvTg Y (ownp.map (·.2)) tg g) (ht : BlkC X scope fun Y => PTs Y ifs (rdT (kf X) WF t))
    (he : BlkC X scope fun Y => EvE Y WF elt ce) (hs : ∀ x, foldedSetIterable iter X.env x = pure x := by intro _; rfl) :
    EvE X W (.ListComp elt [⟨tg, iter, ifs, 0⟩] scope pos) (lcC (ownp.map (·.2)) ci g t ce) :=
  PE.imp (pe_lc B.calm B.nd hi ok hg ht he hs) fun σ H Q ⟨ι, vs, M, hr, o⟩ => lc_read (fun _ _ _ h => h) hr o fun _ _ _ _ h q => rd.imp h q
theorem es_setLc {k : Nat} {y : Str} {py : Pos} {elt tg iter : Expr} {ifs : List Expr} {scope : Scope} {ownp : List (Str × Nat)} {pos spos : Pos} (i : Nat) (B : Be X W k) (hi : EvI X W tg iter ci) (ok : BlkOk X.N X.env.scope scope ownp)
    (hg : BlkC X scope fun Y => EvTg Y (ownp.map (·.2)) tg g) (ht : BlkC X scope fun Y => PTs Y ifs (rdT (kf X) WF t))
    (he : BlkC X scope fun Y => EvE Y WF elt ce) (hy : X.N[i]? = some y := by rfl) (hyl : X.env.scope.names.lookup y = some .local := by rfl) (hsw : swapsWith (.ListComp elt [⟨tg, iter, ifs, 0⟩] scope pos) (some (.Name y py)) spos.line X.env = pure true := by rfl) (hs : ∀ x, foldedSetIterable iter X.env x = pure x := by intro _; rfl) :
    EvS X W (.Assign [.Name y py] (.ListComp elt [⟨tg, iter, ifs, 0⟩] scope pos) spos) (asgC (lcC (ownp.map (·.2)) ci g t ce) (nameG i)) :=
  PS.imp (ps_setLc B.calm B.nd hy hyl hsw hi ok hg ht he hs) fun D σ H ⟨ι, vs, M, hr, o⟩ => by
    have h1 : rdE (kf X) W (lcC (ownp.map (·.2)) ci g t ce) σ H fun v H1 => gName i v σ H1 D.nx :=
      OutS.run (k := fun a M1 => onlyG (nameG i a vs M1)) hr o fun ι1 a M1 b H1 h1 h2 h3 h4 h5 => OutS.fin (h3.slot h4) h5
    obtain ⟨ι1, vs1, M1, hr1, o1⟩ := h1
    exact lc_read (fun _ _ _ h => h) hr1 o1 fun _ _ _ _ h q => rd.imp h q
theorem pts_nilA {Y : Cx} : PTs Y [] (rdT (kf X) WF yesT) := ⟨fun pins s σ H Q I ⟨ι, vs, M, hr, o⟩ => pts_nil.run pins s σ H Q I (Out.fin hr o rfl)⟩
theorem pts_oneA {Y : Cx} {c : Expr} (h : EvT Y WF c t) : PTs Y [c] (rdT (kf Y) WF t) := pts_one h
end
end AM
end

section
set_option Elab.async false
set_option linter.all false
set_option autoImplicit false
set_option maxRecDepth 100000
set_option maxHeartbeats 4000000
/-! AM 18: dict comprehensions, keys of either kind. -/
namespace AM
open PySem PySem.Spec L2

/-- d[k] = v, in a comprehension's block -/
def PDs (X : Cx) (D : Addr) (t : V → V → Hp → (Hp → Prop) → Prop) : Prop := ∀ (pins : List (Addr × Obj)) (s : Shared) (σ : L2.St) (H : Hp) (y z : V) (u r : Value) (Q : Hp → Prop) (E : Value → Shared → Prop), Inv X pins σ H s → RelV y u → RelV z r → t y z H Q →
  wpAny (model X.prog X.w) X.A (dictSet D u r) (fun _ s' => ∃ H', Inv X pins σ H' s' ∧ Q H') E s
section
variable {X : Cx}
def tDcA (wi : TI) (g : TG) (tt : TT) (tk tv : TE) (td : Addr → V → V → Hp → (Hp → Prop) → Prop) (vs : List Nat) : TE := fun σ H Q => wi σ H fun J H1 => ∀ D, H1 D = none → ∃ W : Nat → Nat → Hp → Prop, (∃ m, W 0 m (upd H1 D (.dK []))) ∧ ∀ i m H, W i m H →
  (J.stop i H ∧ Q (.ref D) H) ∨ (J.go i H ∧ ∃ Nx : Hp → Prop, (∀ H', Nx H' → ∃ m', m' < m ∧ W (i + 1) m' H') ∧ ∀ x H', J.yld i H x H' → g x (wipe σ vs) H' fun σ2 H2 => wipe σ2 vs = wipe σ vs ∧ tt σ2 H2 fun b H3 =>
    if b = true then tk σ2 H3 fun y H4 => tv σ2 H4 fun z H5 => td D y z H5 Nx else Nx H3)
theorem dcA_core {pins : List (Addr × Obj)} {s : Shared} {σ : L2.St} {H : Hp} {Q : VK} {kx vx tg iter : Expr} {ifs : List Expr} {scope : Scope} {own : List (Str × Nat)} {pos pos' : Pos} {wi : TI} {g : TG} {tt : TT} {tk tv : TE} {td : Addr → V → V → Hp → (Hp → Prop) → Prop} {Qf : Value → Shared → Prop} {use : Option (Value → Sem Unit)}
    (hc : X.calm = true) (hN : X.N.Nodup) (I : Inv X pins σ H s) (hi : PI X tg iter wi) (ok : BlkOk X.N X.env.scope scope own)
    (hg : ∀ (s : Shared) (H : Hp) (C : Addr) (cl : List (Str × Addr)) (fp : List Addr), PG (X.blk s H scope (compEnvC scope cl C X.env) fp) tg g) (ht : ∀ (s : Shared) (H : Hp) (C : Addr) (cl : List (Str × Addr)) (fp : List Addr), PTs (X.blk s H scope (compEnvC scope cl C X.env) fp) ifs tt)
    (hk : ∀ (s : Shared) (H : Hp) (C : Addr) (cl : List (Str × Addr)) (fp : List Addr), PE (X.blk s H scope (compEnvC scope cl C X.env) fp) kx tk)
    (he : ∀ (s : Shared) (H : Hp) (C : Addr) (cl : List (Str × Addr)) (fp : List Addr), PE (X.blk s H scope (compEnvC scope cl C X.env) fp) vx tv)
    (hds : ∀ (s : Shared) (H : Hp) (C : Addr) (cl : List (Str × Addr)) (fp : List Addr) (D : Addr), PDs (X.blk s H scope (compEnvC scope cl C X.env) fp) D (td D)) (hs : ∀ x, foldedSetIterable iter X.env x = pure x)
    (h : tDcA wi g tt tk tv td (own.map (·.2)) σ H Q)
    (hRR : ∀ D C s' m H', Inv X pins σ H' s' → Q (.ref D) H' → s'.heap.Ns C m → FpOk X pins H' C → compPost (model X.prog X.w) X.A X.xe use Qf (.ref D) C (.ok .next) s') :
    wpAny (model X.prog X.w) X.A (comprehension (.DictComp kx vx [⟨tg, iter, ifs, 0⟩] scope pos) scope X.env pos' newDict false (eval iter X.env) use) Qf X.xe s := by
  have hfree : ∀ y ∈ scope.names, y.2 = .free → ∃ c, X.env.cells.lookup y.1 = some c := fun y hy e => by
    rcases ok.free y hy e with k | k
    · exact I.ok.has _ (.inl k)
    · exact I.ok.has _ (.inr k)
  refine wpAny_comprehension_free (use := use) rfl hs (closure_ok hfree) ok.kind (fun y hy e => by rw [ok.uniq y hy, e])
    (thn (hi.run pins s σ H _ I h) fun xv s1 hx => thn hx fun itv s2 h2 => ?_)
  obtain ⟨it, fp, tn, J, H2, e, I2, T, st2, f2, q⟩ := h2
  subst e
  refine wpAny_newObj_type (newEnv_comp ?_)
  generalize hD : s2.heap.objs.size = D
  have hDn : H2 D = none := I2.hok.fresh (Nat.le_of_eq hD)
  obtain ⟨W, ⟨m0, w0⟩, turn⟩ := q D hDn
  generalize hs3 : ({ s2 with heap := s2.heap.push { cls := .type "dict", data := .dict #[] } } : Shared) = s3
  have I3 : Inv X pins σ (upd H2 D (.dK [])) s3 := by
    rw [← hs3]
    refine I2.laid (t' := s2.toks) (fun b o e => Heap.get?_push_of_some _ e) (Nat.le_of_eq hD) ?_
    rw [← hD]
    exact dk_empty s2.heap I2.big
  have h3 : s3.heap = s2.heap.push { cls := .type "dict", data := .dict #[] } := by rw [← hs3]
  have f3 : ∀ b ∈ fp, FpOk X pins (upd H2 D (.dK [])) b ∧ b < s3.heap.objs.size := fun b hb => by
    have hlt : b < s2.heap.objs.size := by
      obtain ⟨o, e, _⟩ := T.obj _ _ st2 b hb
      exact Heap.lt_size e
    refine ⟨⟨?_, (f2 b hb).2⟩, by rw [h3, Heap.size_push]; exact Nat.lt_succ_of_lt hlt⟩
    rw [upd_ne (by rw [← hD]; exact Nat.ne_of_lt hlt)]
    exact (f2 b hb).1
  have st3 : tn 0 s3.heap := T.keep _ _ _ st2 fun b _ o e => by rw [h3]; exact Heap.get?_push_of_some _ e
  have I4 := block_start I3 ok hN f3
  have pg := hg s3 (upd H2 D (.dK [])) s3.heap.objs.size (cellsFrom (s3.heap.objs.size + 1) scope.names (cloFrom X.env.cells scope.names [])) fp
  have pt := ht s3 (upd H2 D (.dK [])) s3.heap.objs.size (cellsFrom (s3.heap.objs.size + 1) scope.names (cloFrom X.env.cells scope.names [])) fp
  have pk := hk s3 (upd H2 D (.dK [])) s3.heap.objs.size (cellsFrom (s3.heap.objs.size + 1) scope.names (cloFrom X.env.cells scope.names [])) fp
  have pe := he s3 (upd H2 D (.dK [])) s3.heap.objs.size (cellsFrom (s3.heap.objs.size + 1) scope.names (cloFrom X.env.cells scope.names [])) fp
  have pd := hds s3 (upd H2 D (.dK [])) s3.heap.objs.size (cellsFrom (s3.heap.objs.size + 1) scope.names (cloFrom X.env.cells scope.names [])) fp D
  show codeAny _ _ (.compStart (.DictComp kx vx [⟨tg, iter, ifs, 0⟩] scope pos) 0 (.ref it) (.ref D) (compEnvC scope (cellsFrom (s3.heap.objs.size + 1) scope.names (cloFrom X.env.cells scope.names [])) s3.heap.objs.size X.env)) (compPost (model X.prog X.w) X.A X.xe use Qf (.ref D) s3.heap.objs.size) { s3 with heap := pushCells (s3.heap.push { cls := .type "dict", data := .dict #[] }) scope.names }
  have nfp : ∀ b ∈ fp, (upd H2 D (.dK [])) b = none := fun b hb => (f3 b hb).1.1
  generalize hce : compEnvC scope (cellsFrom (s3.heap.objs.size + 1) scope.names (cloFrom X.env.cells scope.names [])) s3.heap.objs.size X.env = ce at I4 pg pt pk pe pd ⊢
  have cL : ce.locals = s3.heap.objs.size := by subst hce; rfl
  generalize hH3 : upd H2 D (.dK []) = H3 at I3 I4 pg pt pk pe pd w0 nfp f3
  generalize hs4 : ({ s3 with heap := pushCells (s3.heap.push { cls := .type "dict", data := .dict #[] }) scope.names } : Shared) = s4 at I4 ⊢
  have st4 : tn 0 s4.heap := T.keep _ _ _ st3 fun b _ o e => by rw [← hs4]; exact pushCells_keeps _ _ _ _ (Heap.get?_push_of_some _ e)
  have stat : ∀ {σ' : L2.St} {H' : Hp} {s' : Shared}, Inv (X.blk s3 H3 scope ce fp) [] σ' H' s' → (∀ b ∈ fp, H' b = none) → ∀ b ∈ fp, FpOk (X.blk s3 H3 scope ce fp) [] H' b := fun {σ' H' s'} I' hn b hb =>
    ⟨hn b hb, (I'.ok.exf b hb).1, I'.ok.exfs b hb, .inl hb, fun x c e => (I'.ok.exf b hb).2 x c e, fun p hp => absurd (show p ∈ ([] : List (Addr × Obj)) ++ [] from hp) (by simp)⟩
  refine codeAny_compStart_dict ?loop (T.self X.A 0 _ _ _ st4 ?loop)
  refine compLoop_anyD (fun n s' => ∃ i H', Inv (X.blk s3 H3 scope ce fp) [] (wipe σ (own.map (·.2))) H' s' ∧ tn i s'.heap ∧ (∀ b ∈ fp, H' b = none) ∧ W i n H') ?_ m0 ⟨0, H3, I4, st4, nfp, w0⟩
  rintro n s5 ⟨i, H5, I5, st5, n5, w5⟩
  rcases turn i n H5 w5 with ⟨stop, qq⟩ | ⟨go, Nx, hNx, step⟩
  · refine thnF (T.done (X.blk s3 H3 scope ce fp) rfl rfl rfl hc i [] s5 _ H5 (fun _ _ => False) I5 (stat I5 n5) st5 stop) fun r s6 ⟨hr, I6⟩ => ?_
    subst hr
    have I7 : Inv X pins σ H5 s6 := I3.call' (ch := fp) I6.os I6.base I6.hok I6.bare fun b hb => ⟨(f3 b hb).1.2.2.2.1, (f3 b hb).1.2.1, (f3 b hb).1.2.2.2.2.1, (f3 b hb).1.2.2.2.2.2⟩
    have nC : H5 s3.heap.objs.size = none := by
      have z : H5 ce.locals = none := I6.free
      rw [cL] at z
      exact z
    obtain ⟨m, hn, _⟩ := I6.loc
    have hn : s6.heap.Ns ce.locals m := hn
    rw [cL] at hn
    exact hRR D s3.heap.objs.size s6 m H5 I7 qq hn (I3.fpOk (Nat.le_refl _) nC)
  · refine thnF (T.item (X.blk s3 H3 scope ce fp) rfl rfl rfl hc i [] s5 _ H5 (fun _ _ => False) I5 (stat I5 n5) st5 go) fun r s6 ⟨u, hr, h6⟩ => ?_
    subst hr
    refine thnF h6 fun _ s7 ⟨x, H7, I7, r7, y7, st7, n7⟩ => ?_
    have I7' := I7.pinned (stat I7 n7) (T.obj _ _ st7)
    refine thnF (pg.run _ s7 _ H7 x u _ I7' r7 (step x H7 y7)) fun _ s8 ⟨σ8, H8, I8, hw8, q8⟩ => ?_
    refine thnF (pt.run _ s8 σ8 H8 _ I8 q8) fun b s9 ⟨H9, I9, q9⟩ => ?_
    have fin : ∀ {s' : Shared} {H' : Hp}, Inv (X.blk s3 H3 scope ce fp) ([] ++ pinsAt fp s7.heap) σ8 H' s' → Nx H' → ∃ m, m < n ∧ ∃ i H', Inv (X.blk s3 H3 scope ce fp) [] (wipe σ (own.map (·.2))) H' s' ∧ tn i s'.heap ∧ (∀ b ∈ fp, H' b = none) ∧ W i m H' := fun {s' H'} I' nx => by
      obtain ⟨m', hm, w'⟩ := hNx H' nx
      have pin' : ∀ b ∈ fp, ∀ o, s7.heap.get? b = some o → s'.heap.get? b = some o ∧ H' b = none := fun b hb o e =>
        let z := I'.pin (b, o) (List.mem_append_right _ (List.mem_append_right _ (mem_pinsAt hb e)))
        ⟨z.1, z.2.1⟩
      have hl : (wipe σ (own.map (·.2))).length = σ8.length := by rw [← hw8, wipe_length]
      refine ⟨m', hm, i + 1, H', (I'.unpinned (pins := [])).weak hl (fun j v e => ?_), T.keep _ _ _ st7 fun b hb o e => (pin' b hb o e).1, fun b hb => ?_, w'⟩
      · rw [← hw8] at e
        exact (wipe_some e).1
      · obtain ⟨o, e, _⟩ := T.obj _ _ st7 b hb
        exact (pin' b hb o e).2
    cases b with
    | false =>
      simp only [Bool.false_eq_true, if_false] at q9 ⊢
      exact fin I9 q9
    | true =>
      simp only [if_true] at q9 ⊢
      refine thnF (pk.run _ s9 σ8 H9 _ I9 q9) fun z s10 ⟨yk, H10, I10, r10, q10⟩ => ?_
      refine thnF (pe.run _ s10 σ8 H10 _ I10 q10) fun z2 s11 ⟨yv, H11, I11, r11, q11⟩ => ?_
      exact thn (pd _ s11 σ8 H11 yk yv _ _ Nx _ I11 r10 r11 q11) fun _ s12 ⟨H12, I12, nx⟩ => fin I12 nx
theorem pe_dcA {kx vx tg iter : Expr} {ifs : List Expr} {scope : Scope} {own : List (Str × Nat)} {pos : Pos} {wi : TI} {g : TG} {tt : TT} {tk tv : TE} {td : Addr → V → V → Hp → (Hp → Prop) → Prop} (hc : X.calm = true) (hN : X.N.Nodup) (hi : PI X tg iter wi) (ok : BlkOk X.N X.env.scope scope own)
    (hg : ∀ (s : Shared) (H : Hp) (C : Addr) (cl : List (Str × Addr)) (fp : List Addr), PG (X.blk s H scope (compEnvC scope cl C X.env) fp) tg g) (ht : ∀ (s : Shared) (H : Hp) (C : Addr) (cl : List (Str × Addr)) (fp : List Addr), PTs (X.blk s H scope (compEnvC scope cl C X.env) fp) ifs tt)
    (hk : ∀ (s : Shared) (H : Hp) (C : Addr) (cl : List (Str × Addr)) (fp : List Addr), PE (X.blk s H scope (compEnvC scope cl C X.env) fp) kx tk)
    (he : ∀ (s : Shared) (H : Hp) (C : Addr) (cl : List (Str × Addr)) (fp : List Addr), PE (X.blk s H scope (compEnvC scope cl C X.env) fp) vx tv)
    (hds : ∀ (s : Shared) (H : Hp) (C : Addr) (cl : List (Str × Addr)) (fp : List Addr) (D : Addr), PDs (X.blk s H scope (compEnvC scope cl C X.env) fp) D (td D)) (hs : ∀ x, foldedSetIterable iter X.env x = pure x := by intro _; rfl) :
    PE X (.DictComp kx vx [⟨tg, iter, ifs, 0⟩] scope pos) (tDcA wi g tt tk tv td (own.map (·.2))) := by
  refine ⟨fun pins s σ H Q I h => ?_⟩
  rw [arm_eval_DictComp]
  refine dcA_core hc hN I hi ok hg ht hk he hds hs h fun D C s' m H' I' q hn f => ⟨m, hn, fun h'' sb => ?_⟩
  obtain ⟨f0, f1, f2, f3, f4, f5⟩ := f
  exact ⟨.ref D, H', I'.turned (t' := s'.toks) (fun b o hb e => (sb.2 b hb).trans e) f0 f1 f3 f4 f5, rfl, q⟩
end
/-- y, z go to the dict at d -/
def putD (d : Nat) (y z : AV) (M : AH) (k : AH → R AV) : R AV := match dPutA (.ref d) y z M with
  | .ok _ M1 => k M1
  | _ => .bad
def dcL (it : IT) (d : Nat) (own : List Nat) (g : CG) (t : CT) (ck cv : CE) (vs : Loc) : List AV → AH → R AV
  | [], M => if it.ok M = true then .ok (.ref d) M else .bad
  | x :: xs, M => if it.ok M = true then runG g x (wipeL vs own) M fun vs1 M1 => thenR (t vs1 M1) fun b M2 => if b = true then thenR (ck vs1 M2) fun y M3 => thenR (cv vs1 M3) fun z M4 => putD d y z M4 (dcL it d own g t ck cv vs xs) else dcL it d own g t ck cv vs xs M2 else .bad
def dcC (own : List Nat) (ci : CI) (g : CG) (t : CT) (ck cv : CE) : CE := fun vs M => (ci vs M).bind fun it M1 => dcL it M1.length own g t ck cv vs it.items (M1 ++ [.dct []])
section
variable [Tb] {X : Cx} {W : WX} {own : List Nat} {g : CG} {t : CT} {ck cv : CE} {ci : CI}
/-- the set step, by values -/
def tdA [Tb] (X : Cx) (D : Addr) : V → V → Hp → (Hp → Prop) → Prop := fun y z H Q => ∃ ι vs M σ a b d, Rel (kf X) ι vs M σ H ∧ VR (kf X) ι H a y ∧ VR (kf X) ι H b z ∧ ι[d]? = some D ∧ Out (kf X) WF (fun _ _ (_ : Unit) (_ : Unit) => True) ι vs σ H (fun _ H' => Q H') (dPutA (.ref d) a b M)
theorem pds_at (hu : X.A.units + 64 < cLine) (D : Addr) : PDs X D (tdA X D) := by
  intro pins s σ0 H y z u r Q E I ry rz ⟨ι, vs, M, σ, a, b, d, hr, ha, hb, hd, oo⟩
  unfold dPutA at oo
  obtain ⟨j, kvs, k, e, q, hk, ok, oo⟩ := dk2_cases oo
  cases e
  split at oo
  · rename_i hl
    rcases put_go hu I hr q hd ha ry hb ok hk hl with ⟨gs, ws, y', fv, hy, hm, go⟩ | ⟨ks, xs, p2, tv, rfl, rfl, hm, go⟩
    · obtain ⟨h1, h2, h3, h4, h5⟩ := fv
      refine wpAny_dictSet_pairs (hsz := by rw [← h4.length]; exact h2) hm h5 fun h' d sb => ?_
      obtain ⟨H', I', k', r'⟩ := go h' r _ rz d sb
      exact ⟨H', I', oo ι H' () (List.prefix_refl _) k' r' trivial⟩
    · obtain ⟨h1, h2, h3, h4, h5⟩ := tv
      refine wpAny_dictSet_heap (hsz := by rw [← Paired.length h4]; exact h2) (by show X.A.units + 8 < cLine; omega) hm h5 fun h' d sb => ?_
      obtain ⟨H', I', k', r'⟩ := go h' r _ rz d sb
      exact ⟨H', I', oo ι H' () (List.prefix_refl _) k' r' trivial⟩
  · exact oo.elim
theorem dc_read {ι : List Addr} {vs : Loc} {M : AH} {σ : L2.St} {H : Hp} {Q : VK} (hr : Rel (kf X) ι vs M σ H) (o : Out (kf X) W (VR (kf X)) ι vs σ H Q (dcC own ci g t ck cv vs M)) :
    tDcA (rdI (kf X) W ci) (rdO (kf X) own g) (rdT (kf X) WF t) (rdE (kf X) WF ck) (rdE (kf X) WF cv) (tdA X) own σ H Q := by
  have h0 : rdI (kf X) W ci σ H fun J H1 => ∃ ι1 it M1, Rel (kf X) ι1 vs M1 σ H1 ∧ ItR (kf X) J ι1 H1 it ∧ Out (kf X) W (VR (kf X)) ι1 vs σ H1 Q (dcL it M1.length own g t ck cv vs it.items (M1 ++ [.dct []])) :=
    Out.run hr o fun ι1 it M1 J H1 h1 h2 h3 h4 h5 => ⟨ι1, it, M1, h3, h4, h5⟩
  refine rd.imp h0 fun J H1 ⟨ι1, it, M1, h3, h4, h5⟩ D hD => ?_
  have kD : Keep H1 (upd H1 D (.dK [])) := Keep.new hD
  have r0 : Rel (kf X) (ι1 ++ [D]) vs (M1 ++ [.dct []]) σ (upd H1 D (.dK [])) := h3.snoc hD (.inl ⟨[], upd_same, .nil⟩)
  have dD : (ι1 ++ [D])[M1.length]? = some D := by rw [← h3.rep.len]; simp
  refine ⟨fun i m H' => m = it.items.length - i ∧ i ≤ it.items.length ∧ ∃ ι' M', (ι1 ++ [D]) <+: ι' ∧ Keep (upd H1 D (.dK [])) H' ∧ Rep (kf X) ι' M' H' ∧ Out (kf X) W (VR (kf X)) ι' vs σ H' Q (dcL it M1.length own g t ck cv vs (it.items.drop i) M'), ⟨_, rfl, Nat.zero_le _, _, _, List.prefix_refl _, Keep.refl _, r0.rep, ?_⟩, ?_⟩
  · have o' : Out (kf X) W (VR (kf X)) (ι1 ++ [D]) vs σ (upd H1 D (.dK [])) Q (dcL it M1.length own g t ck cv vs it.items (M1 ++ [.dct []])) := h5.base (List.prefix_append _ _) kD
    simpa using o'
  · rintro i m H' ⟨rfl, hi, ι', M', k1, k2, k3, k4⟩
    have dI : ι'[M1.length]? = some D := pre_get k1 dD
    have sl : SLs (kf X) ι' H' vs σ := h3.sl.mono ((List.prefix_append _ _).trans k1) (kD.trans k2)
    by_cases hlt : i < it.items.length
    · rw [List.drop_eq_getElem_cons hlt, dcL] at k4
      split at k4
      case isFalse => exact k4.elim
      rename_i hok
      obtain ⟨f1, f2⟩ := h4 i ι' M' H' ((List.prefix_append _ _).trans k1) (kD.trans k2) k3 hok
      obtain ⟨f3, f4⟩ := f1 _ (List.getElem?_eq_getElem hlt)
      refine .inr ⟨f3, fun H2 => ∃ ι2 M2, (ι1 ++ [D]) <+: ι2 ∧ Keep (upd H1 D (.dK [])) H2 ∧ Rep (kf X) ι2 M2 H2 ∧ Out (kf X) W (VR (kf X)) ι2 vs σ H2 Q (dcL it M1.length own g t ck cv vs (it.items.drop (i + 1)) M2), fun H2 ⟨ι2, M2, q1, q2, q3, q4⟩ => ⟨_, (by omega : it.items.length - (i + 1) < it.items.length - i), rfl, hlt, ι2, M2, q1, q2, q3, q4⟩, fun v H2 hy => ?_⟩
      obtain ⟨p1, p2, p3⟩ := f4 v H2 hy
      have rep2 := k3.keep p1 p2
      have sl2 := sl.mono (List.prefix_refl _) p1
      refine ⟨ι', wipeL vs own, M', _, ⟨sl2.wipe own, rep2⟩, p3, ?_⟩
      unfold runG at k4
      cases eg : g it.items[i] (wipeL vs own) M' with
      | nx vs1 M1' =>
        rw [eg] at k4
        dsimp only at k4
        refine fun ι3 H3 σ3 w1 w2 w3 w4 => ⟨w4.trans wipe_wipe, ?_⟩
        have kk : Keep H' H3 := p1.trans w2
        have sl3 : SLs (kf X) ι3 H3 vs σ := sl2.mono w1 w2
        refine ⟨ι3, vs1, M1', w3, (Out.thenR (rel := relT) (vs' := vs1) (σ' := σ3) sl3 (k4.base w1 kk)).imp fun ι' H'' b b' M'' _ _ _ _ ⟨ι4, b2, M2, c1, c2, c3, c4, c5⟩ => ?_⟩
        subst c4
        have P4 : (ι1 ++ [D]) <+: ι4 := (k1.trans w1).trans c1
        have K4 : Keep (upd H1 D (.dK [])) H'' := (k2.trans kk).trans c2
        cases b2 with
        | false =>
          rw [if_neg (by decide)] at c5 ⊢
          exact ⟨ι4, M2, P4, K4, c3.rep, c5⟩
        | true =>
          rw [if_pos rfl] at c5 ⊢
          refine ⟨ι4, vs1, M2, c3, (Out.thenR (rel := VR (kf X)) (vs' := vs1) (σ' := σ3) (sl3.mono c1 c2) c5).imp fun ι' H5 y y' M5 _ _ _ _ ⟨ι5, y2, M3, d1, d2, d3, d4, d5⟩ => ?_⟩
          refine ⟨ι5, vs1, M3, d3, (Out.thenR (rel := VR (kf X)) (vs' := vs1) (σ' := σ3) ((sl3.mono c1 c2).mono d1 d2) d5).imp fun ι' H6 z z' M6 _ _ _ _ ⟨ι6, z2, M4, e1, e2, e3, e4, e5⟩ => ?_⟩
          have P6 : (ι1 ++ [D]) <+: ι6 := (P4.trans d1).trans e1
          have K6 : Keep (upd H1 D (.dK [])) H6 := (K4.trans d2).trans e2
          refine ⟨ι6, vs1, M4, σ3, y2, z2, M1.length, e3, d4.mono e1 e2, e4, pre_get P6 dD, ?_⟩
          unfold putD at e5
          cases ed : dPutA (.ref M1.length) y2 z2 M4 with
          | ok a M7 =>
            rw [ed] at e5
            exact fun ι7 H7 _ a1 a2 a3 _ => ⟨ι7, M7, P6.trans a1, K6.trans a2, a3.rep, e5.base a1 a2⟩
          | exc c fs M7 => rw [ed] at e5; exact e5.elim
          | bad => rw [ed] at e5; exact e5.elim
      | bk a b => rw [eg] at k4; exact k4.elim
      | ct a b => rw [eg] at k4; exact k4.elim
      | rt a b => rw [eg] at k4; exact k4.elim
      | exc a b c d => rw [eg] at k4; exact k4.elim
      | bad => rw [eg] at k4; exact k4.elim
    · have e : i = it.items.length := by omega
      subst e
      rw [List.drop_length, dcL] at k4
      split at k4
      case isFalse => exact k4.elim
      rename_i hok
      obtain ⟨f1, f2⟩ := h4 _ ι' M' H' ((List.prefix_append _ _).trans k1) (kD.trans k2) k3 hok
      exact .inl ⟨f2 rfl, Out.fin ⟨sl, k3⟩ k4 (by rw [vr_ref]; exact ⟨D, dI, rfl⟩)⟩
theorem ev_dc {k : Nat} {kx vx tg iter : Expr} {ifs : List Expr} {scope : Scope} {ownp : List (Str × Nat)} {pos : Pos} (B : Be X W k) (hi : EvI X W tg iter ci) (ok : BlkOk X.N X.env.scope scope ownp)
    (hg : BlkC X scope fun Y => EvTg Y (ownp.map (·.2)) tg g) (ht : BlkC X scope fun Y => PTs Y ifs (rdT (kf X) WF t))
    (hk : BlkC X scope fun Y => EvE Y WF kx ck) (hv : BlkC X scope fun Y => EvE Y WF vx cv) (hs : ∀ x, foldedSetIterable iter X.env x = pure x := by intro _; rfl) :
    EvE X W (.DictComp kx vx [⟨tg, iter, ifs, 0⟩] scope pos) (dcC (ownp.map (·.2)) ci g t ck cv) :=
  PE.imp (pe_dcA (td := tdA X) B.calm B.nd hi ok hg ht hk hv (fun s H C cl fp D => pds_at (X := X.blk s H scope (compEnvC scope cl C X.env) fp) B.room.units D) hs) fun σ H Q ⟨ι, vs, M, hr, o⟩ => dc_read hr o
theorem es_setDc {k : Nat} {y : Str} {py : Pos} {kx vx tg iter : Expr} {ifs : List Expr} {scope : Scope} {ownp : List (Str × Nat)} {pos spos : Pos} (i : Nat) (B : Be X W k) (hi : EvI X W tg iter ci) (ok : BlkOk X.N X.env.scope scope ownp)
    (hg : BlkC X scope fun Y => EvTg Y (ownp.map (·.2)) tg g) (ht : BlkC X scope fun Y => PTs Y ifs (rdT (kf X) WF t))
    (hk : BlkC X scope fun Y => EvE Y WF kx ck) (hv : BlkC X scope fun Y => EvE Y WF vx cv) (hy : X.N[i]? = some y := by rfl) (hyl : X.env.scope.names.lookup y = some .local := by rfl) (hsw : swapsWith (.DictComp kx vx [⟨tg, iter, ifs, 0⟩] scope pos) (some (.Name y py)) spos.line X.env = pure true := by rfl) (hs : ∀ x, foldedSetIterable iter X.env x = pure x := by intro _; rfl) :
    EvS X W (.Assign [.Name y py] (.DictComp kx vx [⟨tg, iter, ifs, 0⟩] scope pos) spos) (asgC (dcC (ownp.map (·.2)) ci g t ck cv) (nameG i)) := by
  refine ⟨fun pins s σ H D I ⟨ι, vs, M, hr, o⟩ => ?_⟩
  have h1 : rdE (kf X) W (dcC (ownp.map (·.2)) ci g t ck cv) σ H fun v H1 => gName i v σ H1 D.nx :=
    OutS.run (k := fun a M1 => onlyG (nameG i a vs M1)) hr o fun ι1 a M1 b H1 h1 h2 h3 h4 h5 => OutS.fin (h3.slot h4) h5
  obtain ⟨ι1, vs1, M1, hr1, o1⟩ := h1
  rw [exec_Assign_Name_used _ _ _ _ hsw]
  refine wpAny_bind (wpAny_standAt (wpAny_bind ?_))
  show wpAny _ X.A (do let _ ← comprehension (.DictComp kx vx [⟨tg, iter, ifs, 0⟩] scope pos) scope X.env (firstIterPos [⟨tg, iter, ifs, 0⟩] pos) newDict false (eval iter X.env) (some (assign (.Name y py) X.env))) _ _ s
  refine wpAny_bind (thn (dcA_core (td := tdA X) (Qf := fun _ s' => SP X pins D .next s') B.calm B.nd I hi ok hg ht hk hv (fun s H C cl fp D => pds_at (X := X.blk s H scope (compEnvC scope cl C X.env) fp) B.room.units D) hs (dc_read hr1 o1) fun L C s' m H' I' q hn f => ?_) fun _ s' hq => wpAny_pure (wpAny_pure hq))
  show wpAny _ _ (assign (.Name y py) X.env (.ref L)) _ _ _
  refine wpAny_assign_Name (store_ok2 (v := V.ref L) I' B.nd hy (.inl hyl) rfl (fun s2 I2 ⟨a, sb, ha⟩ => ?_) (.inr hyl))
  obtain ⟨f0, f1, f2, f3, f4, f5⟩ := f
  have haC : C ≠ a := by
    rcases ha with z | z
    · rw [z]; exact f1
    · exact fun e => f4 y a z e.symm
  refine ⟨m, hn.sameBut sb haC, fun h3 sb3 => ?_⟩
  exact ⟨_, H', I2.turned (t' := s2.toks) (fun b o hb e => (sb3.2 b hb).trans e) f0 f1 f3 f4 f5, q⟩
end
end AM
end

section
set_option Elab.async false
set_option linter.all false
set_option autoImplicit false
set_option maxRecDepth 100000
set_option maxHeartbeats 4000000
/-! AM 19: more expressions: class names, chained comparisons, list(range(..)), list(d.items()), sorted, repr. -/
namespace AM
open PySem PySem.Spec L2
section
variable [Tb] {X : Cx} {W : WX} {a b c e : Expr} {pos p apos cpos : Pos} {ca cb cc ce : CE} {x : Str} {k : Nat}
/-- a built-in class by its name -/
theorem ev_bty {T : String} (hg : Gl X x) (hm : X.mg x = none) (hv : bootBuiltins x = some (.type T)) (hn : x ≠ "__name__" := by decide +kernel) (hd : (x == ("__debug__" : Str)) = false := by decide +kernel) : EvE X W (.Name x pos) (conC (.ty T)) :=
  ev_con (t := tC (.ty T)) (pe_bltn hg hm hv (v := .ty T) rfl hn hd) fun _ _ => by rw [vr_ty]
/-! chains -/
def chnC (op op' : AV → AV → AH → R AV) (ca cb cc : CE) : CE := fun vs M => (ca vs M).bind fun a M1 => (cb vs M1).bind fun b M2 => (op a b M2).bind fun r M3 => match r with
  | .bl true => (cc vs M3).bind fun c M4 => op' b c M4
  | .bl false => .ok (.bl false) M3
  | _ => .bad
theorem chn_vals {op op' : AV → AV → AH → R AV} {σ : L2.St} {H : Hp} {Q : VK} (h : rdE (kf X) W (chnC op op' ca cb cc) σ H Q) :
    tChain (rd2 (kf X) W op) (rd2 (kf X) W op') (rdE (kf X) W ca) (rdE (kf X) W cb) (rdE (kf X) W cc) σ H Q := by
  obtain ⟨ι, vs, M, hr, o⟩ := h
  refine Out.run hr o fun ι1 a M1 v H1 h1 h2 h3 h4 h5 => Out.run h3 h5 fun ι2 b M2 w H2 g1 g2 g3 g4 g5 => ?_
  refine ⟨ι2, vs, M2, σ, a, b, g3, h4.mono g1 g2, g4, (Out.bind g5).imp fun ι' H' z v' M' k1 k2 k3 k4 ⟨ι3, a3, M3, p1, p2, p3, p4, p5⟩ => ?_⟩
  cases a3 with
  | bl kk =>
    rw [vr_bl] at p4
    refine ⟨kk, p4, ?_⟩
    cases kk with
    | true =>
      rw [if_pos rfl]
      exact Out.run p3 p5 fun ι4 c M4 u H4 q1 q2 q3 q4 q5 => ⟨ι4, vs, M4, σ, b, c, q3, (g4.mono p1 p2).mono q1 q2, q4, q5⟩
    | false =>
      rw [if_neg (by decide)]
      exact Out.fin p3 p5 (by rw [vr_bl])
  | _ => exact p5.elim
theorem ev_chain {o o' : CmpOp} {op op' : AV → AV → AH → R AV} (ho : OpR X (compareOp o) (rd2 (kf X) W op)) (ho' : OpR X (compareOp o') (rd2 (kf X) W op')) (ha : EvE X W a ca) (hb : EvE X W b cb) (hc : EvE X W c cc)
    (hm : lastMarks [o, o'] [b, c] = false := by with_unfolding_all rfl) : EvE X W (.Compare a [o, o'] [b, c] pos) (chnC op op' ca cb cc) :=
  PE.imp (pe_chain ho ho' ha hb hc hm) fun σ H Q h => chn_vals h
def tstC (c : CE) : CT := fun vs M => (c vs M).bind tstA
theorem et_chain {o o' : CmpOp} {op op' : AV → AV → AH → R AV} (ho : OpR X (compareOp o) (rd2 (kf X) W op)) (ho' : OpR X (compareOp o') (rd2 (kf X) W op')) (ha : EvE X W a ca) (hb : EvE X W b cb) (hc : EvE X W c cc)
    (hm : lastMarks [o, o'] [b, c] = false := by with_unfolding_all rfl) : EvT X W (.Compare a [o, o'] [b, c] pos) (tstC (chnC op op' ca cb cc)) :=
  PT.imp (pt_chain ho ho' ha hb hc hm) fun σ H Q ⟨ι, vs, M, hr, o⟩ => chn_vals (Out.run hr o fun ι1 a M1 v H1 h1 h2 h3 h4 h5 => by
    cases a with
    | bl kk => rw [vr_bl] at h4; exact ⟨kk, h4, Out.fin h3 h5 rfl⟩
    | _ => exact h5.elim)
/-! list(range(..)), tuple(range(..)) -/
def rgL (lo hi : Int) : List AV := (List.range (hi - lo).toNat).map fun i => .int (lo + (i : Nat))
instance (lo hi : Int) : Decidable (RgOk lo hi) := by unfold RgOk; infer_instance
def rgB (lo hi : Int) : Bool := decide (RgOk lo hi)
def listRg (as : List AV) (M : AH) : R AV := match as with
  | [.int n] => if rgB 0 n = true then newL (rgL 0 n) M else .bad
  | [.int m, .int n] => if rgB m n = true then newL (rgL m n) M else .bad
  | _ => .bad
theorem rgl_vrs {κ : Cfg} {ι : List Addr} {H : Hp} {lo hi : Int} : VRs κ ι H (rgL lo hi) (rgV lo hi) := by
  unfold rgL rgV
  generalize (hi - lo).toNat = n
  have : ∀ l : List Nat, VRs κ ι H (l.map fun i => .int (lo + (i : Nat))) (l.map fun i => V.int (lo + (i : Nat))) := fun l => by
    induction l with
    | nil => exact .nil
    | cons i l ih => exact .cons (by rw [vr_int]) ih
  exact this _
theorem rgl_go {ι : List Addr} {vs : Loc} {M : AH} {σ : L2.St} {H : Hp} {Q : VK} {lo hi : Int} (hr : Rel (kf X) ι vs M σ H) (o : Out (kf X) W (VR (kf X)) ι vs σ H Q (if rgB lo hi = true then newL (rgL lo hi) M else .bad)) :
    RgOk lo hi ∧ ∀ q, H q = none → Q (.ref q) (upd H q (.lst (rgV lo hi))) := by
  split at o
  case isFalse => exact o.elim
  rename_i h
  exact ⟨of_decide_eq_true h, (Out.newL hr rgl_vrs o).2⟩
theorem ev_listRg1 (hc : X.calm = true) (hg : Gl X "list") (hm : X.mg "list" = none) (hg2 : Gl X "range") (hm2 : X.mg "range" = none) (ha : EvE X W a ca) {p2 pos2 : Pos} (na : starEach [a] X.env = (false, eval a X.env) :: starEach [] X.env := by rfl)
    (nb : starEach [.Call (.Name "range" p2) [a] [] pos2] X.env = (false, eval (.Call (.Name "range" p2) [a] [] pos2) X.env) :: starEach [] X.env := by rfl) : EvE X W (.Call (.Name "list" p) [.Call (.Name "range" p2) [a] [] pos2] [] pos) (argsC listRg (consA ca nilA)) :=
  PE.imp (pe_listRg hc hg hm (prg_1 hg2 hm2 ha na) nb) fun σ H Q ⟨ι, vs, M, hr, o⟩ => Out.run hr (show Out (kf X) W (VR (kf X)) ι vs σ H Q ((ca vs M).bind fun a M1 => listRg [a] M1) from by
    cases q : ca vs M with
    | ok a M1 => have := o; unfold argsC consA nilA at this; rw [q] at this; exact this
    | exc c fs M1 => have := o; unfold argsC consA nilA at this; rw [q] at this; exact this
    | bad => have := o; unfold argsC consA nilA at this; rw [q] at this; exact this) fun ι1 a M1 v H1 h1 h2 h3 h4 h5 => by
    unfold listRg at h5
    split at h5
    · rename_i n e
      cases e
      rw [vr_int] at h4
      exact ⟨n, h4, rgl_go h3 h5⟩
    · rename_i e; cases e
    · exact h5.elim
theorem ev_listRg2 (hc : X.calm = true) (hg : Gl X "list") (hm : X.mg "list" = none) (hg2 : Gl X "range") (hm2 : X.mg "range" = none) (ha : EvE X W a ca) (hb : EvE X W b cb) {p2 pos2 : Pos} (na : starEach [a, b] X.env = (false, eval a X.env) :: starEach [b] X.env := by rfl)
    (nb : starEach [b] X.env = (false, eval b X.env) :: starEach [] X.env := by rfl) (hp : (backTo pos2 (starEach [b] X.env)).any (·.1) = false := by rfl)
    (nc : starEach [.Call (.Name "range" p2) [a, b] [] pos2] X.env = (false, eval (.Call (.Name "range" p2) [a, b] [] pos2) X.env) :: starEach [] X.env := by rfl) : EvE X W (.Call (.Name "list" p) [.Call (.Name "range" p2) [a, b] [] pos2] [] pos) (bin2 (fun a b => listRg [a, b]) ca cb) :=
  PE.imp (pe_listRg hc hg hm (prg_2 hg2 hm2 ha hb na nb hp) nc) fun σ H Q ⟨ι, vs, M, hr, o⟩ => Out.run hr o fun ι1 a M1 v H1 h1 h2 h3 h4 h5 => Out.run h3 h5 fun ι2 b M2 w H2 g1 g2 g3 g4 g5 => by
    dsimp only at g5
    unfold listRg at g5
    split at g5
    · rename_i n e; cases e
    · rename_i m n e
      cases e
      rw [vr_int] at h4 g4
      exact ⟨m, n, h4, g4, rgl_go g3 g5⟩
    · exact g5.elim
/-! list(d.items()), int or text keys -/
def itemsL (a : AV) (M : AH) : R AV := match dctOf a M with
  | some (_, kvs) => if (kvs.all fun p => isFl p.1) = true then .ok (.ref M.length) (M ++ [.lst (kvs.map fun p => .tup [p.1, p.2])]) else .bad
  | none => .bad
theorem kr_vr {κ : Cfg} {ι : List Addr} {H : Hp} {a : AV} {y : Key} (h : KR a y) : VR κ ι H a (kV y) := by
  cases h with
  | int i => rw [vr_int]; rfl
  | str s => rw [vr_str]; rfl
theorem Rep.add {κ : Cfg} {ι : List Addr} {M : AH} {H : Hp} {o : AO} {p : Addr} (r : Rep κ ι M H) (np : p ∉ ι) (ho : OR κ (ι ++ [p]) H o p) : Rep κ (ι ++ [p]) (M ++ [o]) H := by
  refine ⟨by simp [r.len], ?_, fun i o' a e ea => ?_, r.tab⟩
  · rw [List.nodup_append]
    exact ⟨r.nd, by simp, fun a ha b hb => by
      have : b = p := by simpa using hb
      subst this
      exact fun z => np (z ▸ ha)⟩
  · by_cases hi : i < M.length
    · rw [List.getElem?_append_left hi] at e
      rw [List.getElem?_append_left (by rw [r.len]; exact hi)] at ea
      exact (r.obj i o' a e ea).mono (List.prefix_append _ _) (Keep.refl _) rfl
    · have hi' : i = M.length := by
        have := (List.getElem?_eq_some_iff.mp e).1
        simp at this; omega
      subst hi'
      rw [List.getElem?_append_right (Nat.le_refl _)] at e
      rw [List.getElem?_append_right (by rw [r.len]; exact Nat.le_refl _)] at ea
      simp at e
      rw [r.len, Nat.sub_self] at ea
      simp at ea
      subst e; subst ea
      exact ho
theorem ev_listItems (hc : X.calm = true) (he : EvE X W e ce) (hg : Gl X "list") (hm : X.mg "list" = none) (hbase : attributeBase e "items" X.env (eval e X.env) = eval e X.env := by rfl) (hline : (apos.endLine == cpos.line) = true := by rfl)
    (hs : starEach [.Call (.Attribute e "items" apos) [] [] cpos] X.env = (false, eval (.Call (.Attribute e "items" apos) [] [] cpos) X.env) :: starEach [] X.env := by rfl) :
    EvE X W (.Call (.Name "list" p) [.Call (.Attribute e "items" apos) [] [] cpos] [] pos) (un1 itemsL ce) :=
  PE.imp (LiI.pe_listItems hc he hg hm (by decide +kernel) hbase hline hs) fun σ H Q ⟨ι, vs, M, hr, o⟩ => Out.run hr o fun ι1 a M1 v H1 h1 h2 h3 h4 h5 => by
    unfold itemsL at h5
    split at h5
    case h_2 => exact h5.elim
    rename_i i kvs ed
    split at h5
    case isFalse => exact h5.elim
    rename_i hfl
    unfold dctOf at ed
    split at ed
    case h_2 => cases ed
    rename_i i'
    split at ed
    case h_2 => cases ed
    rename_i kvs' em
    cases ed
    rw [vr_ref] at h4
    obtain ⟨d, ei, rfl⟩ := h4
    rcases h3.rep.at_ em ei with ⟨gs, k1, k2⟩ | ⟨ks, k1, k2, hne⟩
    · refine ⟨d, gs, rfl, k1, fun H' q ts ext nq nts nqt hq hp => ?_⟩
      have kp : Keep H1 H' := ⟨fun a xs e => ext _ _ e, fun a o u e => ext _ _ e⟩
      have rep' : Rep (kf X) ι1 M1 H' := h3.rep.keep kp fun a u e => (ext _ _ e).trans e.symm
      have items : ∀ {kvs : List (AV × AV)} {gs : List (Key × V)} {ts : List Addr}, DR (kf X) ι1 H1 kvs gs → Paired (fun (t : Addr) (q : Key × V) => H' t = some (.tup [kV q.1, q.2])) ts gs → VRs (kf X) (ι1 ++ [q]) H' (kvs.map fun p => .tup [p.1, p.2]) (ts.map V.ref) := by
        intro kvs gs ts h1 h2
        induction h1 generalizing ts with
        | nil => cases h2; exact .nil
        | cons r t ih =>
          cases h2 with
          | cons r2 t2 =>
            refine .cons ?_ (ih t2)
            rw [vr_tup]
            refine ⟨_, _, rfl, SqT.of r2, .cons ?_ (.cons (r.2.mono (List.prefix_append _ _) kp) .nil)⟩
            exact kr_vr r.1
      refine h5 (ι1 ++ [q]) H' _ (List.prefix_append _ _) kp ⟨h3.sl.mono (List.prefix_append _ _) kp, rep'.add (h3.rep.fresh nq) ⟨_, hq, items k2 hp⟩⟩ ?_
      rw [vr_ref]
      exact ⟨q, by rw [← h3.rep.len]; simp, rfl⟩
    · exact absurd (tr_tp k2 hfl).1 hne
end
end AM
end

section
set_option Elab.async false
set_option linter.all false
set_option autoImplicit false
set_option maxRecDepth 100000
set_option maxHeartbeats 4000000
/-! AM 20: sorted, repr. -/
namespace AM
open PySem PySem.Spec L2
/-- as data -/
def datK (M : AH) (a : AV) : PyData := (datS M a).getD .none
def tupB : PyData → Bool
  | .tuple (_ :: _) => true
  | _ => false
def othB : PyData → Bool
  | .none => false
  | .tuple _ => false
  | _ => true
def sortOk (M : AH) (xs : List AV) : Bool := (xs.all fun x => (datS M x).isSome) && (xs.all fun x => xs.all fun y => PySem.W.alike (datK M x) (datK M y)) && ((xs.all fun x => tupB (datK M x)) || xs.all fun x => othB (datK M x))
def sortA (M : AH) (xs : List AV) : List AV := xs.mergeSort (PySem.W.dataLe false (datK M))
def sortedA (as : List AV) (M : AH) : R AV := match as with
  | [x] => match lstOf x M with
    | some xs => if sortOk M xs = true ∧ xs.length ≤ sizeLine then newL (sortA M xs) M else .bad
    | none => .bad
  | _ => .bad
def reprA (as : List AV) (M : AH) : R AV := match as with
  | [.ref i] => match datS M (.ref i) with
    | some d => if d.showable = true ∧ d.hasDict = false ∧ d.shown.length ≤ sizeLine then .ok (.str d.shown) M else .bad
    | none => .bad
  | [.tup xs] => match datS M (.tup xs) with
    | some d => if d.showable = true ∧ d.hasDict = false ∧ d.shown.length ≤ sizeLine then .ok (.str d.shown) M else .bad
    | none => .bad
  | _ => .bad
section
variable [Tb] {X : Cx} {W : WX} {k : Nat}
theorem sortable_of {M : AH} {xs : List AV} (h : ((xs.all fun x => tupB (datK M x)) || xs.all fun x => othB (datK M x)) = true) : PySem.W.Sortable (xs.map (datK M)) := by
  rcases Bool.or_eq_true_iff.mp h with h | h
  · refine .inl fun d hd => ?_
    obtain ⟨x, hx, rfl⟩ := List.mem_map.mp hd
    have := List.all_eq_true.mp h x hx
    unfold tupB at this
    split at this
    · rename_i y r e; exact ⟨y, r, e⟩
    · cases this
  · refine .inr fun d hd => ?_
    obtain ⟨x, hx, rfl⟩ := List.mem_map.mp hd
    have := List.all_eq_true.mp h x hx
    refine ⟨fun e => ?_, fun ys e => ?_⟩
    · rw [e] at this; cases this
    · rw [e] at this; cases this
theorem vrs_each {κ : Cfg} {ι : List Addr} {H : Hp} : ∀ {xs : List AV} {ws : List V} {its : List Value}, VRs κ ι H xs ws → Vals ws its → PySem.W.EachIs (fun u a => VRV κ ι H a u) its xs
  | [], ws, its, h, r => by
    obtain rfl := h.nil_inv
    cases r
    exact .nil
  | x :: xs, ws, its, h, r => by
    obtain ⟨v, ws', rfl, h1, h2⟩ := h.cons_inv
    cases r with
    | cons r1 r2 => exact .cons ⟨v, h1, r1⟩ (vrs_each h2 r2)
theorem each_vrs {κ : Cfg} {ι : List Addr} {H : Hp} : ∀ {xs : List AV} {its : List Value}, PySem.W.EachIs (fun u a => VRV κ ι H a u) its xs → ∃ ws, VRs κ ι H xs ws ∧ Vals ws its
  | _, _, .nil => ⟨[], .nil, .nil⟩
  | _, _, .cons ⟨v, h1, r1⟩ t => by
    obtain ⟨ws, h2, r2⟩ := each_vrs t
    exact ⟨v :: ws, .cons h1 h2, .cons r1 r2⟩
theorem each_reads {pins : List (Addr × Obj)} {σ0 : L2.St} {H : Hp} {s : Shared} {ι : List Addr} {M : AH} (I : Inv X pins σ0 H s) (rep : Rep (kf X) ι M H) : ∀ {xs : List AV} {its : List Value}, (xs.all fun x => (datS M x).isSome) = true → PySem.W.EachIs (fun u a => VRV (kf X) ι H a u) its xs → PySem.W.EachIs (fun u a => ∃ as, Reads s.heap u (datK M a) as) its xs
  | _, _, _, .nil => .nil
  | x :: xs, u :: us, h, .cons ⟨v, h1, r1⟩ t => by
    rw [List.all_cons, Bool.and_eq_true] at h
    refine .cons ?_ (each_reads I rep h.2 t)
    obtain ⟨d, hd⟩ := Option.isSome_iff_exists.mp h.1
    obtain ⟨dp, _⟩ := datS_dp rep hd h1
    obtain ⟨as, r⟩ := Dp.reads I d v u dp r1
    exact ⟨as, by unfold datK; rw [hd]; exact r⟩
theorem datS_depth {M : AH} {a : AV} {d : PyData} (h : datS M a = some d) : d.depth ≤ 64 := by
  unfold datS at h
  split at h
  · split at h
    · rename_i hs
      cases h
      exact SeqAt.depth_of_shaped hs
    · cases h
  · cases h
theorem cr_sorted (B : Be X W k) : CallR X (.builtin "sorted") (rdN (kf X) W sortedA) := by
  intro pins s σ0 H xs us Q I r ⟨ι, vs, M, σ, as, hr, ha, o⟩
  unfold sortedA at o
  split at o
  case h_2 => exact o.elim
  rename_i x
  split at o
  case h_2 => exact o.elim
  rename_i ys ey
  split at o
  case isFalse => exact o.elim
  rename_i hc
  obtain ⟨hs, hlen⟩ := hc
  unfold sortOk at hs
  rw [Bool.and_eq_true, Bool.and_eq_true] at hs
  obtain ⟨⟨h1, h2⟩, h3⟩ := hs
  obtain ⟨vx, ws1, rfl, g1, g2⟩ := ha.cons_inv
  obtain rfl := g2.nil_inv
  obtain ⟨u, rfl, ru⟩ := vals1 r
  obtain ⟨p, ws, rfl, hp, hw⟩ := lst_rel hr.rep ey g1
  cases (show u = Value.ref p from ru)
  obtain ⟨its, rv, pl, hz⟩ := I.list hp
  have E1 := vrs_each hw rv
  have E2 := each_reads I hr.rep h1 E1
  refine PySem.W.sorted_data (bs := ys) (enc := datK M) pl.isList E1 E2 (fun d hd d' hd' => ?_) (sortable_of h3) hlen (fun b hb => ?_) fun out hl e => ?_
  · obtain ⟨x, hx, rfl⟩ := List.mem_map.mp hd
    obtain ⟨y, hy, rfl⟩ := List.mem_map.mp hd'
    exact List.all_eq_true.mp (List.all_eq_true.mp h2 x hx) y hy
  · obtain ⟨d, hd⟩ := Option.isSome_iff_exists.mp (List.all_eq_true.mp h1 b hb)
    have hdp := datS_depth hd
    have := B.room.un
    unfold datK
    rw [hd]
    show X.A.units + 2 + d.depth < cLine
    omega
  · obtain ⟨ws', hw', rv'⟩ := each_vrs e
    obtain ⟨ep, he'⟩ := PyProof.Rows.sortedAll_at s.heap its (List.toArray out)
    obtain ⟨q1, q2⟩ := Out.newL (xs := sortA M ys) hr hw' o
    refine ⟨.ref (s.heap.objs.size + 1), upd H (s.heap.objs.size + 1) (.lst ws'), I.laid (t' := s.toks) (fun _ _ => PyProof.Rows.sortedAll_old) (Nat.le_succ _) ⟨q1, out, ep, rv', he'⟩, rfl, q2 _ (I.hok.fresh (Nat.le_succ _))⟩
theorem repr_go (B : Be X W k) {pins : List (Addr × Obj)} {σ0 : L2.St} {H : Hp} {s : Shared} {Q : VK} {ι : List Addr} {vs : Loc} {M : AH} {σ : L2.St} {a : AV} {p : Addr} {d : PyData} (I : Inv X pins σ0 H s) (hr : Rel (kf X) ι vs M σ H) (ha : VR (kf X) ι H a (.ref p)) (hd : datS M a = some d)
    (hc : d.showable = true ∧ d.hasDict = false ∧ d.shown.length ≤ sizeLine) (o : Out (kf X) W (VR (kf X)) ι vs σ H Q (.ok (.str d.shown) M)) : wpAny (model X.prog X.w) X.A (call (.builtin "repr") [.ref p]) (EP X pins σ0 Q) X.xe s := by
  obtain ⟨h1, h2, h3⟩ := hc
  obtain ⟨dp, _⟩ := datS_dp hr.rep hd ha
  obtain ⟨as, rd⟩ := Dp.reads I d _ _ dp (rfl : RelV (.ref p) (.ref p))
  have hdp := datS_depth hd
  have := B.room.un
  exact PySem.repr_of_reads' (hsz := h3) rd h1 (fun z => by rw [h2] at z; cases z) B.gd (by omega) (fun _ _ e => e) fun h' u tk hk => ⟨.str d.shown, H, I.kept hk, ⟨u, rfl⟩, Out.fin hr o (by rw [vr_str])⟩
theorem cr_repr (B : Be X W k) : CallR X (.builtin "repr") (rdN (kf X) W reprA) := by
  intro pins s σ0 H xs us Q I r ⟨ι, vs, M, σ, as, hr, ha, o⟩
  unfold reprA at o
  split at o
  · split at o
    case h_2 => exact o.elim
    rename_i d hd
    split at o
    case isFalse => exact o.elim
    rename_i hc
    obtain ⟨vx, ws1, rfl, g1, g2⟩ := ha.cons_inv
    obtain rfl := g2.nil_inv
    obtain ⟨u, rfl, ru⟩ := vals1 r
    have g1' := g1
    rw [vr_ref] at g1'
    obtain ⟨p, _, rfl⟩ := g1'
    cases (show u = Value.ref p from ru)
    exact repr_go B I hr g1 hd hc o
  · split at o
    case h_2 => exact o.elim
    rename_i d hd
    split at o
    case isFalse => exact o.elim
    rename_i hc
    obtain ⟨vx, ws1, rfl, g1, g2⟩ := ha.cons_inv
    obtain rfl := g2.nil_inv
    obtain ⟨u, rfl, ru⟩ := vals1 r
    have g1' := g1
    rw [vr_tup] at g1'
    obtain ⟨p, _, rfl, _⟩ := g1'
    cases (show u = Value.ref p from ru)
    exact repr_go B I hr g1 hd hc o
  · exact o.elim
end
end AM
end

section
set_option Elab.async false
set_option linter.all false
set_option autoImplicit false
set_option maxRecDepth 100000
set_option maxHeartbeats 4000000
/-! AM 21: the script; the end of a law. -/
namespace AM
open PySem PySem.Spec PyProof.Rows L2

/-! ### the script -/
def listScr (i : Nat) : CE := fun vs M => match vs[i]? with
  | some (some (.scr ns)) => newL (ns.map .int) M
  | _ => .bad
theorem ints_vrs {κ : Cfg} {ι : List Addr} {H : Hp} : ∀ ns : List Int, VRs κ ι H (ns.map .int) (ns.map V.int)
  | [] => .nil
  | n :: ns => .cons (by rw [vr_int]) (ints_vrs ns)
section
variable [Tb] {X : Cx} {W : WX} {x : Str} {p pos q : Pos}
theorem ev_listScr (i : Nat) (hg : Gl X "list") (hm : X.mg "list" = none) (hN : X.N[i]? = some x := by rfl) (hv : Vis X.env.scope x := by first | exact Or.inl rfl | exact Or.inr (Or.inl rfl) | exact Or.inr (Or.inr rfl)) (hd : (x == ("__debug__" : Str)) = false := by decide +kernel)
    (hcd : (x == ("__classdict__" : Str)) = false := by decide +kernel) (na : starEach [.Name x q] X.env = (false, eval (.Name x q) X.env) :: starEach [] X.env := by rfl) : EvE X W (.Call (.Name "list" p) [.Name x q] [] pos) (listScr i) := by
  have h := pe_callTy (X := X) (T := "list") (x := "list") (p := p) (pos := pos) call_list_of hg hm (by decide +kernel) (pa_cons (pe_var (i := i) (pos := q) hN hv hd hcd) pa_nil na) (by decide +kernel) (by decide +kernel) na rfl
  refine PE.imp h fun σ H Q ⟨ι, vs, M, hr, o⟩ => ?_
  unfold listScr at o
  split at o
  case h_2 => exact o.elim
  rename_i ns e
  obtain ⟨v, e1, a, rfl, sc⟩ := hr.sl.at_ i _ e
  exact ⟨_, e1, a, _, rfl, .inl sc.sq, (Out.newL hr (ints_vrs ns) o).2⟩
end

/-! ### the end -/
theorem law_callG {P : Program} {w : World} {K : PySem.W.Frag} {mg mb : Str → Option Value} {T : List (Addr × Str)} {k : Nat} {fa a : Addr} {cs : List (Addr × Addr)} {fd : FuncData} {x : Str} {sp : Heap → Sp} {s₁ : Shared} {vs : List Value} {ns : List Int}
    (KX : K.In s₁.heap) (hns : s₁.heap.Ns mainGlobals mg) (hb : s₁.heap.Ns builtinsNs mb) (hbb : ∀ x : Str, x ≠ "__name__" → mb x = bootBuiltins x) (hlim : s₁.heap.NoLimit) (hg : s₁.gens = #[])
    (hT : ∀ p ∈ cs, s₁.heap.get? p.2 = some { cls := .none, data := .fields #[] }) (nT : ∀ p ∈ cs, K.lookup p.2 = none) (C : ∀ p ∈ cs, PySem.W.CodeHd s₁.heap p.1 p.2)
    (hbm : ∃ (bm : Addr) (ob : Obj), mg "__builtins__" = some (.ref bm) ∧ bm ≠ builtinsNs ∧ s₁.heap.get? bm = some ob ∧ ob.cls = .type "module" ∧ ob.dict = some builtinsNs ∧ ob.data = .plain)
    (ha : s₁.heap.get? a = some { cls := .type "list", data := .seq vs.toArray }) (hi : IntsAre vs ns) (hl : ns.length ≤ sizeLine) (hr : Room k callerA)
    (F : ∀ base : Heap, K.In base → base.Ns mainGlobals mg → (∀ p ∈ cs, LamX.TabB base mg p.1 p.2) → FnG ⟨K, mg, P, w, base, T⟩ k fa fd [x] (sp base)) (hbind : ∀ (s : Shared) (u : Value), BindsTo s fd ⟨[u], []⟩ [(x, u)])
    (hsp : ∀ (base : Heap) (H : Hp), (∀ p ∈ cs, H p.2 = some (.tbl #[])) → Scr K H a ns → sp base [.ref a] H (fun v _ => v = .bl true) fun _ _ _ => False) :
    codeAny (model P w) callerA (.call (.ref fa) ⟨[.ref a], []⟩) (fun r s' => r = .ok (.ret (.bool true)) ∧ OldK s₁.heap s'.heap ∧ s'.os = s₁.os ∧ AllBare s'.gens) s₁ := by
  have rv := vals_ints hi
  have lenV := hi.length
  have isT : ∀ b : Addr, b ∈ cs.map (·.2) → s₁.heap.get? b = some { cls := .none, data := .fields #[] } := fun b hb => by
    obtain ⟨p, hp, e⟩ := List.mem_map.mp hb
    rw [← e]
    exact hT p hp
  have aT : a ∉ cs.map (·.2) := fun z => by
    have q := isT a z
    rw [ha] at q
    have z' : Data.seq vs.toArray _ = Data.fields #[] := congrArg Obj.data (Option.some.inj q)
    cases z'
  have memT : ∀ p ∈ cs, p.2 ∈ cs.map (·.2) := fun p hp => List.mem_map.mpr ⟨p, hp, rfl⟩
  have core : ∀ H : Hp, (∀ p ∈ cs, H p.2 = some (.tbl #[])) → (∀ b, H b = none ∨ b ∈ cs.map (·.2) ∨ ∃ o xs, H b = some (.frz o (.lst xs))) → Scr K H a ns → HOk P w H s₁.heap → (∀ b, H b ≠ none → b = a ∨ b ∈ cs.map (·.2)) → (H a ≠ none → K.lookup a = none) →
      codeAny (model P w) callerA (.call (.ref fa) ⟨[.ref a], []⟩) (fun r s' => r = .ok (.ret (.bool true)) ∧ OldK s₁.heap s'.heap ∧ s'.os = s₁.os ∧ AllBare s'.gens) s₁ := by
    intro H hH hO hS hok hA hK
    have base_of : ∀ {b : Addr} {o : Obj}, s₁.heap.get? b = some o → H b = none → (hidT s₁.heap H).get? b = some o := fun e n => hidT_get e n
    have noD : ∀ {b : Addr} {o : Obj}, s₁.heap.get? b = some o → (∀ vs n, o.data ≠ .seq vs n) → o.data ≠ .fields #[] → H b = none := fun {b o} e h1 h2 => by
      cases q : H b with
      | none => rfl
      | some u =>
        rcases hA b (by rw [q]; simp) with e' | e'
        · rw [e', ha] at e
          cases e
          exact (h1 _ _ rfl).elim
        · rw [isT b e'] at e
          cases e
          exact (h2 rfl).elim
    have noA : ∀ {b : Addr} {o : Obj} {es : Array DictEntry} {ep : Nat}, s₁.heap.get? b = some o → o.data = .dict es ep → H b = none := fun {b o es ep} e d => by
      refine noD e (fun vs n z => ?_) fun z => ?_
      · rw [d] at z
        cases z
      · rw [d] at z
        cases z
    have nsK : ∀ {b : Addr} {m : Str → Option Value}, s₁.heap.Ns b m → (hidT s₁.heap H).Ns b m := fun {b m} ⟨o, es, ep, e, d, r⟩ => ⟨o, es, ep, base_of e (noA e d), d, r⟩
    have hKb : K.In (hidT s₁.heap H) := fun b o e => base_of (KX b o e) (by
      cases q : H b with
      | none => rfl
      | some u =>
        rcases hA b (by rw [q]; simp) with e' | e'
        · rw [e'] at e q
          rw [hK (by rw [q]; simp)] at e
          cases e
        · obtain ⟨p, hp, ep⟩ := List.mem_map.mp e'
          rw [← ep, nT p hp] at e
          cases e)
    have hM : L2.Mod K mg (hidT s₁.heap H) := ⟨hKb, nsK hns, ⟨mb, nsK hb, hbb⟩, let ⟨mc, h1, h2⟩ := hlim; ⟨mc, nsK h1, h2⟩⟩
    have TB : ∀ p ∈ cs, LamX.TabB (hidT s₁.heap H) mg p.1 p.2 := fun p hp => by
      have hTp := hT p hp
      refine ⟨?_, ?_, fun z => ?_⟩
      · obtain ⟨o, us, file, tf, flags, tg, inF, text, tt, e1, r1, r2, r3, r4, r5, r6, r7, r8, hne⟩ := C p hp
        refine ⟨o, us, file, tf, flags, tg, inF, text, tt, base_of e1 (noD e1 (fun vs n z => ?_) fun z => ?_), r1, r2, r3, r4, r5, r6, r7, r8, hne⟩
        · rw [r2] at z
          cases z
        · rw [r2] at z
          cases z
          simp at r3
      · obtain ⟨bm, ob, b1, b2, b3, b4, b5, b6⟩ := hbm
        have nG : bm ≠ mainGlobals := fun q => by
          obtain ⟨o, es, ep, e, hd, _⟩ := hns
          rw [q, e] at b3
          cases b3
          rw [hd] at b6
          cases b6
        have nP : bm ≠ p.2 := fun q => by
          rw [q, hTp] at b3
          cases b3
          cases b6
        refine ⟨bm, ob, b1, b2, nG, nP, base_of b3 (noD b3 (fun vs n z => ?_) fun z => ?_), b4, b5, b6⟩
        · rw [b6] at z
          cases z
        · rw [b6] at z
          cases z
      · obtain ⟨o, es, ep, e, hd, _⟩ := hns
        rw [z, hTp] at e
        cases e
        cases hd
    have e0 : Env0 P w K mg (hidT s₁.heap H) callerA [] s₁ H := ⟨rfl, hM, fun b o e => of_hidT e, Nat.le_of_eq (hidT_size _ _), trivial, fun b hb => absurd (show b ∈ ([] : List Addr) from hb) (by simp), hok, .of_eq hg⟩
    refine codeAny_mono ((F _ hKb (nsK hns) TB).run callerA [] s₁ H ⟨[.ref a], []⟩ [.ref a] [.ref a] _ _ hr rfl e0 (hbind s₁ (.ref a)) (.cons rfl .nil) (hsp _ H hH hS)) fun r s' h => ?_
    cases r with
    | error e =>
      obtain ⟨_, _, _, _, _, _, _, _, _, _, _, _, z⟩ := h
      exact z.elim
    | ok fl =>
      cases fl with
      | next => exact False.elim h
      | brk => exact False.elim h
      | cont => exact False.elim h
      | ret u =>
        obtain ⟨v, H', os, bare, un, hok', r', q⟩ := h
        have q' : v = .bl true := q
        subst q'
        obtain rfl : u = Value.bool true := r'
        have key : ∀ b o, b ∉ cs.map (·.2) → s₁.heap.get? b = some o → s'.heap.get? b = some o := fun b o nb e => by
          cases q : H b with
          | none => exact un.keep b o e q (by intro z; exact absurd (show b ∈ ([] : List Addr) from z) (by simp)) (by simp)
          | some u =>
            rcases hO b with z | z | ⟨ob, xs, z⟩
            · rw [q] at z; cases z
            · exact absurd z nb
            · have z2 := un.frzs b ob _ z
              obtain ⟨e1, _⟩ := hok b _ z
              obtain ⟨e2, _⟩ := hok' b _ z2
              rw [e] at e1; cases e1
              exact e2
        have grown : ∀ p ∈ cs, ∃ more : Array Value, s'.heap.get? p.2 = some { cls := .none, data := .fields more } := fun p hp => by
          obtain ⟨more, z⟩ := un.tbls p.2 #[] (hH p hp)
          exact ⟨_, hok' p.2 _ z⟩
        refine ⟨rfl, ⟨fun b o e => ?_, fun b o e => ?_⟩, os, bare⟩
        · by_cases hb : b ∈ cs.map (·.2)
          · obtain ⟨p, hp, ep⟩ := List.mem_map.mp hb
            obtain ⟨more, hm⟩ := grown p hp
            rw [← ep] at e ⊢
            rw [hT p hp] at e
            cases e
            exact .inr (.inl ⟨((C p hp).tab (hT p hp)).isCodeTable, rfl, #[], more, rfl, by rw [Array.empty_append]; exact hm⟩)
          · exact .inl (key b o hb e)
        · by_cases hb : b ∈ cs.map (·.2)
          · obtain ⟨p, hp, ep⟩ := List.mem_map.mp hb
            obtain ⟨more, hm⟩ := grown p hp
            rw [← ep]
            exact ⟨_, hm⟩
          · exact ⟨o, key b o hb e⟩
  cases hk : K.lookup a with
  | some o =>
    have e := KX a o hk
    rw [ha] at e
    cases e
    refine core (fun b => if b ∈ cs.map (·.2) then some (.tbl #[]) else none) (fun p hp => if_pos (memT p hp)) (fun b => ?_) (.inr ⟨_, vs.toArray, _, hk, rfl, rfl, rfl, by rw [List.size_toArray, lenV]; exact hl, by simpa using rv⟩) (fun b u z => ?_) (fun b z => ?_) fun z => absurd (show (if a ∈ cs.map (·.2) then some (HO.tbl #[]) else none) = none from if_neg aT) z
    · by_cases hb : b ∈ cs.map (·.2)
      · exact .inr (.inl hb)
      · exact .inl (if_neg hb)
    · by_cases hb : b ∈ cs.map (·.2)
      · have z' := (if_pos hb).symm.trans z
        cases z'
        exact isT b hb
      · have z' := (if_neg hb).symm.trans z
        cases z'
    · by_cases hb : b ∈ cs.map (·.2)
      · exact .inr hb
      · exact absurd (if_neg hb) z
  | none =>
    refine core (fun b => if b = a then some (.frz { cls := .type "list", data := .seq vs.toArray } (.lst (ns.map V.int))) else if b ∈ cs.map (·.2) then some (.tbl #[]) else none) (fun p hp => (if_neg (show ¬ p.2 = a from fun z => aT (by rw [← z]; exact memT p hp))).trans (if_pos (memT p hp))) (fun b => ?_)
      (.inl ⟨{ cls := .type "list", data := .seq vs.toArray }, if_pos rfl⟩) (fun b u z => ?_) (fun b z => ?_) fun _ => hk
    · by_cases hb : b = a
      · exact .inr (.inr ⟨_, _, if_pos hb⟩)
      · by_cases hb2 : b ∈ cs.map (·.2)
        · exact .inr (.inl hb2)
        · exact .inl ((if_neg hb).trans (if_neg hb2))
    · by_cases hb : b = a
      · have z' := (if_pos hb).symm.trans z
        cases z'
        rw [hb]
        exact ⟨ha, by rw [List.length_map]; exact hl, vs, _, rv, ha⟩
      · have z1 := (if_neg hb).symm.trans z
        by_cases hb2 : b ∈ cs.map (·.2)
        · have z' := (if_pos hb2).symm.trans z1
          cases z'
          exact isT b hb2
        · have z' := (if_neg hb2).symm.trans z1
          cases z'
    · by_cases hb : b = a
      · exact .inl hb
      · by_cases hb2 : b ∈ cs.map (·.2)
        · exact .inr hb2
        · exact absurd ((if_neg hb).trans (if_neg hb2)) z
/-- what is known of the law's def at the head's heap h -/
def LawG (l : PySem.W.OpenLaw) (w : World) (k n : Nat) (x : Str) (mg : Str → Option Value) (fa : Addr) (h : Heap) : Prop :=
  ∃ (K : PySem.W.Frag) (T : List (Addr × Str)) (cs : List (Addr × Addr)) (fd : FuncData) (Fn : List SV → AH → R AV), K.In h ∧ (∀ p ∈ T, p.1 ∈ cs.map (·.2)) ∧
    (∀ p ∈ cs, h.get? p.2 = some { cls := .none, data := .fields #[] }) ∧ (∀ p ∈ cs, K.lookup p.2 = none) ∧ (∀ p ∈ cs, PySem.W.CodeHd h p.1 p.2) ∧ (∀ (s : Shared) (u : Value), BindsTo s fd ⟨[u], []⟩ [(x, u)]) ∧
    (∀ ns : List Int, ns.length ≤ n → (∀ z ∈ ns, Builtin.Int.intBits z ≤ 1048576) → ∃ M, Fn [.scr ns] [] = .ok (.bl true) M) ∧
    ∀ base : Heap, K.In base → base.Ns mainGlobals mg → (∀ p ∈ cs, LamX.TabB base mg p.1 p.2) → FnG ⟨K, mg, l.prog, w, base, T⟩ k fa fd [x] (spF ⟨K, mg, l.prog, w, base, T⟩ 1 Fn)
theorem am_end {l : PySem.W.OpenLaw} {n k : Nat} {q : Program} {loose : List Str} {XP : (Str → Option Value) → Heap → Prop} {YP : World → Heap → Prop} {d : DefRec} {x : Str}
    (hn : l.most = some n) (hn2 : n ≤ sizeLine) (hdf : d.params.defaults = []) (hr : Room k callerA)
    (F : ∀ (w : World) (mg : Str → Option Value) (fa : Addr) (h : Heap), YP w h → h.Ns mainGlobals mg → mg d.name = some (.ref fa) → LawG l w k n x mg fa h) :
    PySem.W.WalkO q loose XP YP l.row.toRowW d [] (fun f vs => PySem.call f vs) := by
  refine Att.attach_callB hn hdf fun w s₀ s₁ mg mb fa o pm cd doc a vs ns G Y ho hd hcd hmg hobj hints hlen hbits hg => ?_
  obtain ⟨K, T, cs, fd, Fn, KX, hTc, hT, nT, C, hb, hplain, hF⟩ := F w mg fa _ Y G.T.g hmg
  obtain ⟨M, e⟩ := hplain ns hlen hbits
  refine law_callG (T := T) (sp := fun base => spF ⟨K, mg, l.prog, w, base, T⟩ 1 Fn) KX G.T.g G.T.b G.T.builtins G.T.nolimit hg hT nT C G.T.bmain hobj hints (Nat.le_trans hlen hn2) hr hF hb fun base H hH hS => ?_
  refine ⟨rfl, [], [], [.scr ns], ⟨rfl, List.nodup_nil, fun i o a e => by simp at e, fun p hp => ?_⟩, .cons ⟨a, rfl, hS⟩ .nil, ?_⟩
  · obtain ⟨c, hc, ec⟩ := List.mem_map.mp (hTc p hp)
    refine ⟨#[], by rw [← ec]; exact hH c hc, True.intro, fun pos cv hcv => ?_⟩
    have z : codeAmong pos [] = some cv := hcv
    simp [codeAmong] at z
  · rw [e]
    exact fun ι' H' v h1 h2 h3 h4 => by rw [vr_bl] at h4; exact h4
end AM
end

section
set_option Elab.async false
set_option linter.all false
set_option autoImplicit false
set_option maxRecDepth 100000
set_option maxHeartbeats 4000000
/-! AM 22: the head's facts, with tables of code objects. -/
namespace AM
open PySem PySem.Spec PyProof.Rows L2 He

theorem frG_none {g : Addr → Option Obj} {a : Addr} : ∀ {as : List Addr}, a ∉ as → (frG g as).lookup a = none
  | [], _ => rfl
  | b :: r, h => by
    rw [List.mem_cons, not_or] at h
    unfold frG
    rw [List.filterMap_cons]
    cases hb : g b with
    | none => exact frG_none (g := g) h.2
    | some o =>
      show List.lookup a ((b, o) :: frG g r) = none
      rw [List.lookup_cons]
      have : (a == b) = false := by rw [beq_eq_false_iff_ne]; exact h.1
      rw [this]
      exact frG_none h.2
abbrev Path : Type := Str × Option Str
/-- a def's code object -/
def codeAd (K : PySem.W.Frag) (p : Path) : Addr := match K.lookup (fAd K p) with
  | some ⟨_, _, .func fd, _⟩ => (match fd.code with
    | .ref c => c
    | _ => 0)
  | _ => 0
def tabAd (g : Addr → Option Obj) (c : Addr) : Addr := match g c with
  | some ⟨_, _, .fields vs, _⟩ => (match (vs.getD 11 .none : Value) with
    | .ref P => P
    | _ => 0)
  | _ => 0
def strB : Value → Bool
  | .str _ _ => true
  | _ => false
def intB : Value → Bool
  | .int _ _ => true
  | _ => false
def bolB : Value → Bool
  | .bool _ => true
  | _ => false
theorem strB_ok {v : Value} (h : strB v = true) : ∃ x t, v = .str x t := by cases v <;> first | exact ⟨_, _, rfl⟩ | cases h
theorem intB_ok {v : Value} (h : intB v = true) : ∃ x t, v = .int x t := by cases v <;> first | exact ⟨_, _, rfl⟩ | cases h
theorem bolB_ok {v : Value} (h : bolB v = true) : ∃ x, v = .bool x := by cases v <;> first | exact ⟨_, rfl⟩ | cases h
def codeHdB (g : Addr → Option Obj) (c P : Addr) : Bool := match g c with
  | some ⟨.type T, _, .fields vs, _⟩ => decide (T = "code") && decide (vs[11]? = some (.ref P)) && strB (vs.getD 18 .none) && intB (vs.getD 7 .none) && bolB (vs.getD 9 .none) && intB (vs.getD 10 .none) && !decide (c = P)
  | _ => false
theorem codeHdB_ok {h : Heap} {c P : Addr} (e : codeHdB h.get? c P = true) : PySem.W.CodeHd h c P := by
  unfold codeHdB at e
  split at e
  · rename_i T dd vs sl ho
    simp only [Bool.and_eq_true, decide_eq_true_eq, Bool.not_eq_true', decide_eq_false_iff_not] at e
    obtain ⟨⟨⟨⟨⟨⟨rfl, h11⟩, h18⟩, h7⟩, h9⟩, h10⟩, hne⟩ := e
    obtain ⟨f, ft, e18⟩ := strB_ok h18
    obtain ⟨fl, flt, e7⟩ := intB_ok h7
    obtain ⟨b, e9⟩ := bolB_ok h9
    obtain ⟨t, tt, e10⟩ := intB_ok h10
    refine ⟨_, vs, f, ft, fl, flt, b, t, tt, ho, rfl, rfl, h11, ?_, e18, e7, e9, e10, hne⟩
    rw [Array.getD_eq_getD_getElem?, h11]; rfl
  · cases e
def emptyB (g : Addr → Option Obj) (P : Addr) : Bool := match g P with
  | some ⟨.none, .none, .fields vs, sl⟩ => decide (vs.size = 0) && decide (sl.size = 0)
  | _ => false
theorem emptyB_ok {h : Heap} {P : Addr} (e : emptyB h.get? P = true) : h.get? P = some { cls := .none, data := .fields #[] } := by
  unfold emptyB at e
  split at e
  · rename_i vs sl ho
    simp only [Bool.and_eq_true, decide_eq_true_eq] at e
    rw [ho]
    have e1 : vs = #[] := Array.eq_empty_of_size_eq_zero e.1
    have e2 : sl = #[] := Array.eq_empty_of_size_eq_zero e.2
    rw [e1, e2]
  · cases e
def codeIs (K : PySem.W.Frag) (p : Path) (c : Addr) : Bool := match K.lookup (fAd K p) with
  | some ⟨_, _, .func fd, _⟩ => (match fd.code with
    | .ref c' => decide (c' = c)
    | _ => false)
  | _ => false
theorem codeIs_ok {K : PySem.W.Frag} {p : Path} {c : Addr} (e : codeIs K p c = true) : ∀ {oc : Value} {od : Option Addr} {fd : FuncData} {sl : Array (Option Value)}, K.lookup (fAd K p) = some ⟨oc, od, .func fd, sl⟩ → fd.code = .ref c := by
  intro oc od fd sl ho
  unfold codeIs at e
  rw [ho] at e
  dsimp only at e
  split at e
  · rename_i c' h; rw [h, of_decide_eq_true e]
  · cases e
/-- what the head looks at -/
structure Ob where
  n : Nat
  fa : List Fa
  fn : List DefD
  bs : List (PySem.W.Frag → Bool)
  lams : List Path
def obCs (o : Ob) (g : Addr → Option Obj) : List (Addr × Addr) := o.lams.map fun p => (codeAd (frG g (asD g o.n)) p, tabAd g (codeAd (frG g (asD g o.n)) p))
def obK (o : Ob) (g : Addr → Option Obj) : PySem.W.Frag := frG g ((asD g o.n).filter fun a => !((obCs o g).map (·.2)).contains a)
def obX (o : Ob) (g : Addr → Option Obj) : AlD :=
  (o.fa.all (fun f => f.ok (obK o g)) && o.fn.all (fun d => d.ok (obK o g)) && o.bs.all (fun b => b (obK o g)) && (obCs o g).all (fun p => codeHdB g p.1 p.2 && emptyB g p.2) && decide ((obCs o g).map (·.2)).Nodup &&
    (o.lams.zip (obCs o g)).all (fun q => codeIs (obK o g) q.1 q.2.1), o.fn.map fun d => fnW (obK o g) d.at_)
/-- what is known -/
structure SaysX (o : Ob) (K : PySem.W.Frag) (cs : List (Addr × Addr)) (h : Heap) : Prop where
  kin : K.In h
  fd : SaysD o.fa o.fn K
  bs : ∀ b ∈ o.bs, b K = true
  tab : ∀ p ∈ cs, h.get? p.2 = some { cls := .none, data := .fields #[] }
  off : ∀ p ∈ cs, K.lookup p.2 = none
  code : ∀ p ∈ cs, PySem.W.CodeHd h p.1 p.2
  nd : (cs.map (·.2)).Nodup
  len : cs.length = o.lams.length
  is : ∀ (i : Nat) (p : Path) (c : Addr × Addr), o.lams[i]? = some p → cs[i]? = some c → codeIs K p c.1 = true
theorem saysX_of {o : Ob} {h : Heap} (e : obX o h.get? = valD o.fn) : SaysX o (obK o h.get?) (obCs o h.get?) h := by
  have e1 := congrArg (fun z : AlD => z.1) e
  have e2 := congrArg (fun z : AlD => z.2) e
  have e1 : (o.fa.all (fun f => f.ok (obK o h.get?)) && o.fn.all (fun d => d.ok (obK o h.get?)) && o.bs.all (fun b => b (obK o h.get?)) && (obCs o h.get?).all (fun p => codeHdB h.get? p.1 p.2 && emptyB h.get? p.2) && decide ((obCs o h.get?).map (·.2)).Nodup &&
    (o.lams.zip (obCs o h.get?)).all (fun q => codeIs (obK o h.get?) q.1 q.2.1)) = true := e1
  rw [Bool.and_eq_true, Bool.and_eq_true, Bool.and_eq_true, Bool.and_eq_true, Bool.and_eq_true] at e1
  obtain ⟨⟨⟨⟨⟨h1, h2⟩, h3⟩, h4⟩, h5⟩, h6⟩ := e1
  refine ⟨frG_in, ?_, List.all_eq_true.mp h3, fun p hp => ?_, fun p hp => ?_, fun p hp => ?_, of_decide_eq_true h5, by unfold obCs; simp, fun i p c hp hc => ?_⟩
  · show (_, _) = _
    unfold valD
    refine Prod.ext_iff.mpr ⟨?_, e2⟩
    show (_ && _) = true
    rw [Bool.and_eq_true]
    exact ⟨h1, h2⟩
  · exact emptyB_ok (Bool.and_eq_true_iff.mp (List.all_eq_true.mp h4 p hp)).2
  · refine frG_none fun hm => ?_
    have := (List.mem_filter.mp hm).2
    rw [Bool.not_eq_true', ← Bool.not_eq_true, List.contains_iff_mem] at this
    exact this (List.mem_map.mpr ⟨p, hp, rfl⟩)
  · exact codeHdB_ok (Bool.and_eq_true_iff.mp (List.all_eq_true.mp h4 p hp)).1
  · exact List.all_eq_true.mp h6 (p, c) (List.mem_of_getElem? (i := i) (by rw [List.getElem?_zip_eq_some]; exact ⟨hp, hc⟩))
def hookX (o : Ob) : PySem.W.Hook where
  α := AlD
  obs := fun s => obX o s.heap.get?
  val := fun _ => valD o.fn
  says := fun _ h => ∃ K cs, SaysX o K cs h
  of := fun _ _ e => ⟨_, _, saysX_of e⟩
  keeps := fun _ _ _ ⟨K, cs, x⟩ k => ⟨K, cs, x.kin.keeps k, x.fd, x.bs, fun p hp => k _ _ (x.tab p hp), x.off, fun p hp => (x.code p hp).keeps k, x.nd, x.len, x.is⟩
theorem obX_eq {o : Ob} {g : Addr → Option Obj} {s : Shared} (h : ∀ a, g a = s.heap.get? a) : obX o g = (hookX o).obs s := by
  have e : g = s.heap.get? := funext h
  rw [e] <;> rfl
/-- the tables' list: each lambda-bearing def's table, the lambdas' qualified name -/
def tabT (cs : List (Addr × Addr)) (qs : List Str) : List (Addr × Str) := (cs.map (·.2)).zip qs
theorem tabT_in {cs : List (Addr × Addr)} {qs : List Str} : ∀ p ∈ tabT cs qs, p.1 ∈ cs.map (·.2) := fun p hp => (List.of_mem_zip (show (p.1, p.2) ∈ (cs.map (·.2)).zip qs from hp)).1
/-- a lambda may be made here -/
theorem lm_ok [Tb] {X : Cx} {cs : List (Addr × Addr)} {qs : List Str} {c P : Addr} {i : Nat} (hT : Tb.T = tabT cs qs) (nd : (cs.map (·.2)).Nodup) (hc : cs[i]? = some (c, P)) (hq : qs[i]? = some (X.env.qual ++ "<lambda>")) (he : X.env.code = .ref c) (tb : LamX.TabB X.base X.mg c P) : LmOk X := by
  refine ⟨c, P, he, tb, ?_, fun p hp e => ?_⟩
  · rw [hT]
    refine List.mem_of_getElem? (i := i) ?_
    unfold tabT
    rw [List.getElem?_zip_eq_some, List.getElem?_map, hc]
    exact ⟨rfl, hq⟩
  · rw [hT] at hp
    obtain ⟨j, hj⟩ := List.getElem?_of_mem hp
    unfold tabT at hj
    rw [List.getElem?_zip_eq_some] at hj
    have hi : (cs.map (·.2))[i]? = some P := by rw [List.getElem?_map, hc]; rfl
    rw [e] at hj
    obtain ⟨h1, e1⟩ := List.getElem?_eq_some_iff.mp hj.1
    obtain ⟨h2, e2⟩ := List.getElem?_eq_some_iff.mp hi
    have : j = i := (List.getElem_inj nd).mp (e1.trans e2.symm)
    subst this
    rw [hq] at hj
    exact (Option.some.inj hj.2).symm
end AM
end

section
set_option Elab.async false
set_option linter.all false
set_option autoImplicit false
set_option maxRecDepth 100000
set_option maxHeartbeats 4000000
/-! AM 23: what the generator's texts name: defs that are known, methods of the built-in types. -/
namespace AM
open PySem PySem.Spec PyProof.Rows L2
section
variable {κ : Cfg} {k n : Nat} {x y qual : Str} {f : Addr} {fd : FuncData} {ps : List Str} {params : Arguments} {body : List Stmt} {scope : Scope} {kws : List (Str × V)}
theorem kn_of {F : List SV → AH → R AV} (g : κ.mg x = some (.ref f)) (D : FunD κ.K y qual params body scope [] kws f fd)
    (hb : ∀ (kV doc pm : Value) (an : Option Addr) (cdv ct : Value) (us : List Value), us.length = ps.length → bindArgs (PySem.W.fnOf y qual params body scope .none kV doc pm an cdv ct) ⟨us, []⟩ = pure (ps.zip us))
    (h : FnG κ k f fd ps (spF κ n F)) : Kn κ k x n F := ⟨f, fd, ps, g, D.kp, h, D.bindsN hb⟩
theorem kn_bad {F : List SV → AH → R AV} (g : κ.mg x = some (.ref f)) (D : FunD κ.K y qual params body scope [] kws f fd)
    (hb : ∀ (kV doc pm : Value) (an : Option Addr) (cdv ct : Value) (us : List Value), us.length = ps.length → bindArgs (PySem.W.fnOf y qual params body scope .none kV doc pm an cdv ct) ⟨us, []⟩ = pure (ps.zip us))
    (hF : F = fun _ _ => .bad := by rfl) : Kn κ k x ps.length F := by
  subst hF
  exact ⟨f, fd, ps, g, D.kp, ⟨fun vs H Q E h => h.1, fun A outer s H args us vs Q E _ _ _ _ _ ⟨_, _, _, _, _, _, o⟩ => o.elim⟩, D.bindsN hb⟩
end
/-- a method of one built-in type alone -/
def onT (T : String) (op : AV → List AV → AH → R AV) : MFun := fun k => if k = T then some op else none
section
variable [Tb] {X : Cx} {W : WX}
theorem mf_on {name : Str} {T id : String} {op : AV → List AV → AH → R AV} (hT : T = "str" ∨ T = "list" ∨ T = "dict") (pa : PlainAttrs T) (sl : Slot T name id) (ty : typeOf (.builtin id) = pure (.type "method_descriptor")) (hm : MtR X id (rdM (kf X) W op)) : MFact X W name (onT T op) := by
  intro T' op' h
  unfold onT at h
  split at h
  · rename_i e
    subst e
    cases h
    exact ⟨hT, id, pa, sl, ty, hm⟩
  · cases h
theorem mf_append : MFact X W "append" (onT "list" mAppend) := mf_on (.inr (.inl rfl)) PySem.F.plainAttrs_list PySem.F.slot_list_append PySem.F.type_list_append mt_app
theorem mf_extend : MFact X W "extend" (onT "list" mExtend) := mf_on (.inr (.inl rfl)) PySem.F.plainAttrs_list PySem.F.slot_list_extend PySem.F.type_list_extend mt_ext
theorem mf_pop0 : MFact X W "pop" (onT "list" mPop0) := mf_on (.inr (.inl rfl)) PySem.F.plainAttrs_list PySem.F.slot_list_pop PySem.F.type_list_pop mt_pop0
theorem mf_pop1 : MFact X W "pop" (onT "list" mPop1) := mf_on (.inr (.inl rfl)) PySem.F.plainAttrs_list PySem.F.slot_list_pop PySem.F.type_list_pop mt_pop1
theorem mf_clear : MFact X W "clear" (onT "list" mClear) := mf_on (.inr (.inl rfl)) PySem.F.plainAttrs_list PySem.F.slot_list_clear PySem.F.type_list_clear mt_clr
theorem mf_get (hu : X.A.units + 64 < cLine) : MFact X W "get" (onT "dict" mGet) := mf_on (.inr (.inr rfl)) PySem.F.plainAttrs_dict PySem.F.slot_dict_get PySem.F.type_dict_get (mt_dget hu)
end
/-- the i-th statement of a class's body -/
def clsAt (s : Stmt) (i : Nat) : Stmt := match s with
  | .ClassDef _ _ _ body _ _ _ _ _ _ _ => body.getD i (.Pass ⟨0, 0, 0, 0⟩)
  | _ => .Pass ⟨0, 0, 0, 0⟩
section
variable [Tb] {X : Cx} {W : WX} {k : Nat}
theorem Be.u64 (B : Be X W k) : X.A.units + 64 < cLine := by have := B.room.un; omega
theorem Be.u65 (B : Be X W k) : X.A.units + 65 < cLine := by have := B.room.un; omega
theorem Be.blk (B : Be X W k) {s : Shared} {H : Hp} {scope : Scope} {cenv : Env} {fp : List Addr} : Be (X.blk s H scope cenv fp) WF k :=
  ⟨B.calm, B.nd, fun u s' ⟨_, _, _, _, _, _, _, _, _, _, _, _, _, _, _, _, h⟩ => False.elim h, B.room, B.gd⟩
theorem ExCls.mono {κ : Cfg} {j k : Nat} {x f : Str} (h : ExCls κ j x f) (hk : j ≤ k) : ExCls κ k x f := by
  obtain ⟨C, fI, fd, ps, h1, h2, h3, h4, h5, h6⟩ := h.ex
  exact ⟨C, fI, fd, ps, h1, h2, h3, h4, h5.mono hk, h6⟩
end
theorem vals_get : ∀ {xs : List V} {us : List Value} (i : Nat), Vals xs us → (xs[i]? = none ∧ us[i]? = none) ∨ ∃ v u, xs[i]? = some v ∧ us[i]? = some u ∧ RelV v u
  | _, _, _, .nil => .inl ⟨rfl, rfl⟩
  | _, _, 0, .cons r _ => .inr ⟨_, _, rfl, rfl, r⟩
  | _, _, i + 1, .cons _ t => by
    simp only [List.getElem?_cons_succ]
    exact vals_get i t
theorem vals_perm {xs : List V} {us : List Value} (h : Vals xs us) : ∀ perm : List Nat, Vals (permL perm xs) (permL perm us)
  | [] => .nil
  | i :: r => by
    have ih := vals_perm h r
    unfold permL at ih ⊢
    rcases vals_get i h with ⟨e1, e2⟩ | ⟨v, u, e1, e2, rr⟩
    · rw [List.filterMap_cons, List.filterMap_cons, e1, e2]
      exact ih
    · rw [List.filterMap_cons, List.filterMap_cons, e1, e2]
      exact .cons rr ih
theorem vals_appB : ∀ {xs : List V} {us : List Value} {ys : List V} {vs : List Value}, Vals xs us → Vals ys vs → Vals (xs ++ ys) (us ++ vs)
  | _, _, _, _, .nil, h => h
  | _, _, _, _, .cons r t, h => .cons r (vals_appB t h)
theorem knw_of {κ : Cfg} {k n j : Nat} {x y qual : Str} {f : Addr} {fd : FuncData} {ps ks : List Str} {perm : List Nat} {params : Arguments} {body : List Stmt} {scope : Scope} {kws : List (Str × V)} {F : List SV → AH → R AV} (g : κ.mg x = some (.ref f)) (D : FunD κ.K y qual params body scope [] kws f fd)
    (hb : ∀ (kV doc pm : Value) (an : Option Addr) (cdv ct : Value) (us vs : List Value), us.length = j → vs.length = ks.length → bindArgs (PySem.W.fnOf y qual params body scope .none kV doc pm an cdv ct) ⟨us, ks.zip vs⟩ = pure (ps.zip (permL perm (us ++ vs))))
    (h : FnG κ k f fd ps (spF κ n F)) : KnW κ k x n F j ks perm := by
  refine ⟨f, fd, ps, g, D.kp, h, ⟨?_, fun a b => vals_perm (vals_appB a b) perm⟩⟩
  obtain ⟨oc, od, dV, kV, doc, pm, an, cdv, ct, osl, rfl, lk, hcd, hD, hK⟩ := D.ex
  rcases hD with ⟨_, rfl⟩ | ⟨e, _⟩
  · exact fun s us ws _ h1 h2 => .of_eq (hb kV doc pm an cdv ct us ws h1 h2)
  · exact absurd rfl e
theorem KnW.mono {κ : Cfg} {i k n j : Nat} {x : Str} {F : List SV → AH → R AV} {ks : List Str} {perm : List Nat} (h : KnW κ i x n F j ks perm) (hk : i ≤ k) : KnW κ k x n F j ks perm := by
  obtain ⟨f, fd, ps, h1, h2, h3, h4⟩ := h.ex
  exact ⟨f, fd, ps, h1, h2, h3.mono hk, h4⟩
theorem KnEq.mono {κ : Cfg} {i k : Nat} {c : Str} {F : List SV → AH → R AV} (h : KnEq κ i c F) (hk : i ≤ k) : KnEq κ k c F :=
  ⟨fun C e => by
    obtain ⟨f, fd, ps, h1, h2, h3, h4⟩ := h.ex C e
    exact ⟨f, fd, ps, h1, h2, h3.mono hk, h4⟩⟩
end AM
end

section
set_option Elab.async false
set_option linter.all false
set_option autoImplicit false
set_option maxRecDepth 100000
set_option maxHeartbeats 4000000
/-! AM 24: the head's checks and what they tell. -/
namespace AM
open PySem PySem.Spec PyProof.Rows L2 He

def oexB (K : PySem.W.Frag) (C : Addr) : Bool := (match K.lookup C with
  | some ⟨.type "type", _, .cls cd, sl⟩ => (match cd.mro, sl.toList with
    | .ref C' :: bm, [_, _, _, _, some (.builtin n), _] => C' == C && n == "ValueError.__new__" && !cd.hasDel && cd.hasDict && PySem.HandSPX.refsVE bm
    | _, _ => false)
  | _ => false) && (eqO (PySem.W.findIn K (.ref C) "__setattr__") (some (some (.builtin "object.__setattr__"))) && (decide (PySem.W.subIn K (.ref C) (.type "BaseException") = some true) && (decide (PySem.W.typeIn K (.ref C) = some (.type "type")) && PySem.W.keepIn K (.ref C))))
theorem oexB_ok {K : PySem.W.Frag} {C : Addr} (q : oexB K C = true) : OexC K C := by
  unfold oexB at q
  obtain ⟨q, q2⟩ := ba q
  obtain ⟨q3, q2⟩ := ba q2
  obtain ⟨q4, q2⟩ := ba q2
  obtain ⟨q5, q6⟩ := ba q2
  refine ⟨?_, eqO_ok q3, of_decide_eq_true q4, of_decide_eq_true q5, q6⟩
  split at q
  · rename_i dd cd sl ho
    split at q
    · rename_i C' bm k0 k1 k2 k3 n k5 hm hs
      simp only [Bool.and_eq_true, beq_iff_eq, Bool.not_eq_true'] at q
      obtain ⟨⟨⟨⟨rfl, rfl⟩, hdel⟩, hd⟩, ht⟩ := q
      obtain ⟨nm, bs, mro, ns, qn, hdd, sn, sub, ab, col, del⟩ := cd
      dsimp only at hm hdel hd
      subst hm hdel hd
      have hsl : sl = #[k0, k1, k2, k3, some (.builtin "ValueError.__new__"), k5] := by
        obtain ⟨l⟩ := sl
        simp only at hs
        rw [hs]
      subst hsl
      exact ⟨_, _, _, _, _, _, _, _, _, _, _, _, _, _, _, ho, ht⟩
    · cases q
  · cases q
/-- an exception's own class x, whose __init__ stores the field f -/
def xoB (x f : Str) (K : PySem.W.Frag) : Bool := oexB K (ga K x) && (eqO (PySem.W.findIn K (.ref (ga K x)) "__init__") (some (some (.ref (ma K (ga K x) "__init__")))) && (decide (PySem.W.typeIn K (.ref (ma K (ga K x) "__init__")) = some (.type "function")) && eqO (PySem.W.findIn K (.ref (ga K x)) f) (some none)))
theorem xoB_ok {x f : Str} {K : PySem.W.Frag} (h : xoB x f K = true) : OexC K (ga K x) ∧ PySem.W.findIn K (.ref (ga K x)) "__init__" = some (some (.ref (ma K (ga K x) "__init__"))) ∧ PySem.W.typeIn K (.ref (ma K (ga K x) "__init__")) = some (.type "function") ∧ PySem.W.findIn K (.ref (ga K x)) f = some none := by
  obtain ⟨h1, h⟩ := ba h
  obtain ⟨h2, h⟩ := ba h
  obtain ⟨h3, h4⟩ := ba h
  exact ⟨oexB_ok h1, eqO_ok h2, of_decide_eq_true h3, eqO_ok h4⟩
/-- an exception's field is read -/
def xfB (x f : Str) (K : PySem.W.Frag) : Bool := eqO (PySem.W.findIn K (.ref (ga K x)) "__getattribute__") (some (some (.builtin "BaseException.__getattribute__"))) && ((PySem.W.findIn K (.ref (ga K x)) "__getattr__").isSome && (decide (PySem.W.subIn K (.ref (ga K x)) (.type "BaseException") = some true) && (PySem.W.hasDictIn K (ga K x) && eqO (PySem.W.findIn K (.ref (ga K x)) f) (some none))))
theorem xfB_ok {x f : Str} {κ : Cfg} (h : xfB x f κ.K = true) (g : κ.mg x = some (.ref (ga κ.K x))) : ExFld κ x f := by
  refine ⟨fun C e => ?_⟩
  have e2 : Value.ref C = .ref (ga κ.K x) := Option.some.inj (e.symm.trans g)
  cases e2
  obtain ⟨h1, h⟩ := ba h
  obtain ⟨h2, h⟩ := ba h
  obtain ⟨h3, h⟩ := ba h
  obtain ⟨h4, h5⟩ := ba h
  exact ⟨eqO_ok h1, Option.isSome_iff_exists.mp h2, of_decide_eq_true h3, h4, eqO_ok h5⟩
/-- isinstance asks for the own class x -/
def isB (x : Str) (K : PySem.W.Frag) : Bool := (Fa.cls x).ok K && (eqO (PySem.W.findIn K (.ref (ga K x)) "__class__") (some (some (.builtin "object.__class__"))) && (eqO (PySem.W.specialIn K (.builtin "object.__class__") "__get__") (some (some (.builtin "getset_descriptor.__get__"))) &&
  (decide (PySem.W.takesIn K (.builtin "object.__class__") = some true) && (decide (PySem.W.mroIn K (ga K x) (.type "object") = some true) && (biL.all (fun b => decide (PySem.W.kitOne K (.ref (ga K x)) (.type b) = some false)) &&
  ["NoneType", "bool", "int", "str", "tuple", "list", "dict", "function"].all (fun a => decide (PySem.W.kitOne K (.type a) (.ref (ga K x)) = some false)))))))
theorem isB_ok {ws : List Str} {κ : Cfg} (h : ∀ x ∈ ws, isB x κ.K = true ∧ κ.mg x = some (.ref (ga κ.K x))) : IsF κ ws := by
  refine ⟨fun x C hx e => ?_⟩
  obtain ⟨h, g⟩ := h x hx
  have e2 : Value.ref C = .ref (ga κ.K x) := Option.some.inj (e.symm.trans g)
  cases e2
  obtain ⟨h1, h⟩ := ba h
  obtain ⟨h2, h⟩ := ba h
  obtain ⟨h3, h⟩ := ba h
  obtain ⟨h4, h⟩ := ba h
  obtain ⟨h5, h⟩ := ba h
  obtain ⟨h6, h7⟩ := ba h
  exact ⟨cls_ok h1, eqO_ok h2, eqO_ok h3, of_decide_eq_true h4, of_decide_eq_true h5, fun b hb => of_decide_eq_true (List.all_eq_true.mp h6 b hb), fun a ha => of_decide_eq_true (List.all_eq_true.mp h7 a ha)⟩
/-- a global that is a function -/
def gfB (x : Str) (K : PySem.W.Frag) : Bool := match K.lookup (ga K x) with
  | some o => decide (o.cls = .type "function")
  | _ => false
theorem gfB_ok {fns : List Str} {κ : Cfg} (h : ∀ x ∈ fns, gfB x κ.K = true ∧ κ.mg x = some (.ref (ga κ.K x))) : GloFn κ fns := by
  refine ⟨fun x f hx e => ?_⟩
  obtain ⟨h, g⟩ := h x hx
  have e2 : Value.ref f = .ref (ga κ.K x) := Option.some.inj (e.symm.trans g)
  cases e2
  unfold gfB at h
  split at h
  · rename_i o ho
    exact ⟨o, ho, of_decide_eq_true h⟩
  · cases h
theorem clsFld_ok {x f : Str} {κ : Cfg} (h1 : (Fa.cls x).ok κ.K = true) (h2 : (Fa.noat x f).ok κ.K = true) (g : κ.mg x = some (.ref (ga κ.K x))) : ClsFld κ x f := by
  refine ⟨fun C e => ?_⟩
  have e2 : Value.ref C = .ref (ga κ.K x) := Option.some.inj (e.symm.trans g)
  cases e2
  exact ⟨cls_ok h1, noat_ok h2⟩
/-- which class a clause takes, by a table -/
def emT : List (Str × Str × Bool) → Str → Str → Option Bool
  | [], _, _ => none
  | (c', x', b) :: r, c, x => if c = c' ∧ x = x' then some b else emT r c x
theorem emT_in : ∀ {l : List (Str × Str × Bool)} {c x : Str} {b : Bool}, emT l c x = some b → (c, x, b) ∈ l
  | [], _, _, _, e => by cases e
  | (c', x', b') :: r, c, x, b, e => by
    unfold emT at e
    split at e
    · rename_i h
      obtain ⟨rfl, rfl⟩ := h
      cases e
      exact List.mem_cons_self
    · exact List.mem_cons_of_mem _ (emT_in e)
theorem em_ok {l : List (Str × Str × Bool)} {κ : Cfg} (h : ∀ c x b, (c, x, b) ∈ l → (Fa.exm c x b).ok κ.K = true ∧ κ.mg c = some (.ref (ga κ.K c)) ∧ κ.mg x = some (.ref (ga κ.K x))) : EmOk κ (emT l) := by
  intro c x b C D e m1 m2
  obtain ⟨h1, g1, g2⟩ := h c x b (emT_in e)
  have e1 : Value.ref C = .ref (ga κ.K c) := Option.some.inj (m1.symm.trans g1)
  have e2 : Value.ref D = .ref (ga κ.K x) := Option.some.inj (m2.symm.trans g2)
  cases e1
  cases e2
  exact exm_ok h1
end AM
end

section
set_option Elab.async false
set_option linter.all false
set_option autoImplicit false
/-! AM 25: more for the printed texts. -/
namespace AM
open PySem PySem.Spec L2
theorem KnI.mono {κ : Cfg} {i k n : Nat} {c : Str} {F : List SV → AH → R AV} (h : KnI κ i c n F) (hk : i ≤ k) : KnI κ k c n F := by
  obtain ⟨C, f, fd, ps, h1, h2, h3, h4⟩ := h.ex
  exact ⟨C, f, fd, ps, h1, h2, h3.mono hk, h4⟩
end AM
end

section
set_option Elab.async false
set_option linter.all false
set_option autoImplicit false
set_option maxRecDepth 100000
set_option maxHeartbeats 4000000
/-! AM 26: methods of own classes; closures without arguments; instances made by keywords. -/
namespace AM
open PySem PySem.Spec PyProof.Rows L2

/-! ### methods -/
/-- an instance of c without a field m -/
def insHas (c m : Str) (a : AV) (M : AH) : Bool := match a with
  | .ref i => match M[i]? with
    | some (.ins c' fs) => decide (c' = c) && (fs.lookup m).isNone
    | _ => false
  | _ => false
def methO (c m : Str) (n : Nat) (F : List SV → AH → R AV) (co : CE) (r : CA) : CE := fun vs M => (co vs M).bind fun a M1 => if insHas c m a M1 = true then (r vs M1).bind fun as M2 => if (a :: as).length = n then F ((a :: as).map .val) M2 else .bad else .bad
structure KnM (κ : Cfg) (k : Nat) (c m : Str) (n : Nat) (F : List SV → AH → R AV) : Prop where
  ex : ∃ (C f : Addr) (fd : FuncData) (ps : List Str), κ.mg c = some (.ref C) ∧ Cls κ.K C ∧ Meth κ.K C m f ∧ FnG κ k f fd ps (spF κ n F) ∧ Binds κ.K fd ps []
theorem KnM.mono {κ : Cfg} {i k n : Nat} {c m : Str} {F : List SV → AH → R AV} (h : KnM κ i c m n F) (hk : i ≤ k) : KnM κ k c m n F := by
  obtain ⟨C, f, fd, ps, h1, h2, h3, h4, h5⟩ := h.ex
  exact ⟨C, f, fd, ps, h1, h2, h3, h4.mono hk, h5⟩
theorem lookup_none {α β : Type} : ∀ {fs : List (Str × α)} {gs : List (Str × β)} {m : Str}, fs.map (·.1) = gs.map (·.1) → fs.lookup m = none → gs.lookup m = none
  | [], [], _, _, _ => rfl
  | [], _ :: _, _, e, _ => by cases e
  | _ :: _, [], _, e, _ => by cases e
  | (f, a) :: fs, (g, b) :: gs, m, e, h => by
    simp only [List.map_cons, List.cons.injEq] at e
    obtain ⟨rfl, e⟩ := e
    simp only [List.lookup_cons] at h ⊢
    split at h
    · cases h
    · rename_i q
      exact lookup_none e h
section
variable [Tb] {X : Cx} {W : WX} {o e : Expr} {es : List Expr} {apos pos : Pos} {co : CE} {r : CA} {c m : Str} {k n : Nat} {F : List SV → AH → R AV}
theorem ins_at {ι : List Addr} {vs : Loc} {M : AH} {σ : L2.St} {H : Hp} {a : AV} {x : V} (hr : Rel (kf X) ι vs M σ H) (ha : VR (kf X) ι H a x) (h : insHas c m a M = true) : ∃ (p C dx : Addr) (gs : List (Str × V)), x = .ref p ∧ X.mg c = some (.ref C) ∧ H p = some (.ins C dx gs) ∧ gs.lookup m = none := by
  unfold insHas at h
  split at h
  case h_2 => cases h
  rename_i i
  split at h
  case h_2 => cases h
  rename_i c' fs em
  simp only [Bool.and_eq_true, decide_eq_true_eq, Option.isNone_iff_eq_none] at h
  obtain ⟨rfl, h2⟩ := h
  rw [vr_ref] at ha
  obtain ⟨p, ei, rfl⟩ := ha
  obtain ⟨C, dx, gs, k0, k1, k2⟩ := hr.rep.at_ em ei
  exact ⟨p, C, dx, gs, rfl, k0, k1, lookup_none k2.1 h2⟩
theorem ev_methO0 {pl : Sem Bool} (B : Be X W k) (hk : KnM (kf X) k c m n F) (ho : EvE X W o co)
    (ht : eval (.Call (.Attribute o m apos) [] [] pos) X.env = (do
      let ov ← eval o X.env
      standAt apos.atName
      let (f, first) ← holding [ov] (getMethod ov m pl)
      callWith pos f first (backTo pos (starEach [] X.env)) (backToKw pos (keywordEach [] X.env))) := by rfl) :
    EvE X W (.Call (.Attribute o m apos) [] [] pos) (methO c m n F co nilA) := by
  obtain ⟨C, f, fd, ps, h1, h2, h3, h4, h5⟩ := hk.ex
  refine ⟨fun pins s σ H Q I ⟨ι, vs, M, hr, oo⟩ => ?_⟩
  refine PySem.W.methodCall_KW (pl := pl) (thn (ho.run pins s σ H _ I (Out.run (Q1 := fun x H1 => ∃ (p dx : Addr) (gs : List (Str × V)), x = .ref p ∧ H1 p = some (.ins C dx gs) ∧ gs.lookup m = none ∧ spF (kf X) n F [x] H1 Q (WE W σ)) hr oo fun ι1 a M1 v H1 g1 g2 g3 g4 g5 => ?_)) fun v s1 ⟨x, H1, I1, rx, p, dx, gs, ex, ea, l, q⟩ => ?_) ht
  · split at g5
    case isFalse => exact g5.elim
    rename_i hi
    obtain ⟨p, C', dx, gs, e1, e2, e3, e4⟩ := ins_at g3 g4 hi
    cases (show some (Value.ref C) = some (.ref C') from (show X.mg c = _ from h1).symm.trans e2)
    have g5 : Out (kf X) W (VR (kf X)) ι1 vs σ H1 Q (if [a].length = n then F ([a].map .val) M1 else .bad) := g5
    exact ⟨p, dx, gs, e1, e3, e4, call_goal g3 (.cons g4 .nil) g5⟩
  · subst ex
    obtain rfl : v = Value.ref p := rx
    refine getmeth_ok I1 ea h2 h3 l ?_
    exact PySem.W.callWith_K0 (first := [.ref p]) I1.kIn h3.kp (run_fnG (us := [.ref p]) (vs := [.ref p]) B h4 h5 I1 (.cons rfl .nil) q)
theorem ev_methO {pl : Sem Bool} (B : Be X W k) (hk : KnM (kf X) k c m n F) (ho : EvE X W o co) (ha : EvA X W (e :: es) r)
    (hst : starEach (e :: es) X.env = (false, eval e X.env) :: starEach es X.env := by rfl) (hpl : (backTo pos (starEach es X.env)).any (·.1) = false := by rfl)
    (ht : eval (.Call (.Attribute o m apos) (e :: es) [] pos) X.env = (do
      let ov ← eval o X.env
      standAt apos.atName
      let (f, first) ← holding [ov] (getMethod ov m pl)
      callWith pos f first (backTo pos (starEach (e :: es) X.env)) (backToKw pos (keywordEach [] X.env))) := by rfl) :
    EvE X W (.Call (.Attribute o m apos) (e :: es) [] pos) (methO c m n F co r) := by
  obtain ⟨C, f, fd, ps, h1, h2, h3, h4, h5⟩ := hk.ex
  refine ⟨fun pins s σ H Q I ⟨ι, vs, M, hr, oo⟩ => ?_⟩
  refine PySem.W.methodCall_KW (pl := pl) (thn (ho.run pins s σ H _ I (Out.run (Q1 := fun x H1 => ∃ (p dx : Addr) (gs : List (Str × V)), x = .ref p ∧ H1 p = some (.ins C dx gs) ∧ gs.lookup m = none ∧ rdA (kf X) W r σ H1 fun ws H2 => spF (kf X) n F (x :: ws) H2 Q (WE W σ)) hr oo fun ι1 a M1 v H1 g1 g2 g3 g4 g5 => ?_)) fun v s1 ⟨x, H1, I1, rx, p, dx, gs, ex, ea, l, q⟩ => ?_) ht
  · split at g5
    case isFalse => exact g5.elim
    rename_i hi
    obtain ⟨p, C', dx, gs, e1, e2, e3, e4⟩ := ins_at g3 g4 hi
    cases (show some (Value.ref C) = some (.ref C') from (show X.mg c = _ from h1).symm.trans e2)
    exact ⟨p, dx, gs, e1, e3, e4, Out.run g3 g5 fun ι2 as M2 ws H2 k1 k2 k3 k4 k5 => call_goal k3 (.cons (g4.mono k1 k2) k4) k5⟩
  · subst ex
    obtain rfl : v = Value.ref p := rx
    refine getmeth_ok I1 ea h2 h3 l ?_
    refine PySem.W.callWith_K (first := [.ref p]) (h₀ := X.base) I.ok.mod.kin h3.kp (thn (ha.run pos pins s1 σ H1 _ I1 q) fun us s2 ⟨ws, H2, I2, r2, q2⟩ => ⟨I2.kIn, ?_⟩) hst hpl
    exact run_fnG (us := .ref p :: us) (vs := .ref p :: ws) B h4 h5 I2 (.cons rfl r2) q2
/-! ### closures without arguments -/
theorem ev_clo0 {x : Str} {p : Pos} (i : Nat) (B : Be X W k) (hN : X.N[i]? = some x := by rfl) (hv : Vis X.env.scope x := by first | exact Or.inl rfl | exact Or.inr (Or.inl rfl) | exact Or.inr (Or.inr rfl)) (hd : (x == ("__debug__" : Str)) = false := by decide +kernel)
    (hcd : (x == ("__classdict__" : Str)) = false := by decide +kernel) : EvE X W (.Call (.Name x p) [] [] pos) (cloC k i nilA) := by
  refine ⟨fun pins s σ H Q I ⟨ι, vs, M, hr, o⟩ => ?_⟩
  unfold cloC at o
  split at o
  case h_2 => exact o.elim
  rename_i kk F ev
  split at o
  case isFalse => exact o.elim
  rename_i hle
  have o : Out (kf X) W (VR (kf X)) ι vs σ H Q (F [] M) := o
  obtain ⟨v, e1, f, rfl, cat, cok⟩ := hr.sl.at_ i _ ev
  refine wpAny_Call_Name_kw (thn ((pe_var (pos := p) (i := i) hN hv hd hcd).run pins s σ H (fun v H1 => v = .ref f ∧ H1 = H) I ⟨.ref f, e1, rfl, rfl⟩) fun u s1 ⟨v, H1, I1, rv, ev1, eH⟩ => ?_)
  subst ev1 eH
  obtain rfl : u = Value.ref f := rv
  refine PySem.W.callWith_F0 (clo_at I1 cat) ?_
  refine wpAny_call (codeAny_mono (cok X.A X.stack s1 H1 ι M [] [] [] Q (WE W σ) (B.room.mono hle) B.gd I1.env0 (List.prefix_refl _) (Keep.refl _) hr.rep .nil .nil (OutF.ofOut hr.sl (fun _ _ _ => Iff.rfl) o)) fun rr s' hq => ?_)
  cases rr with
  | error e => exact passAt B.tk σ pins H1 s1 e s' I1 hq
  | ok fl =>
    cases fl with
    | ret u => exact I1.after hq
    | next => exact False.elim hq
    | brk => exact False.elim hq
    | cont => exact False.elim hq
end
end AM
end

section
set_option Elab.async false
set_option linter.all false
set_option autoImplicit false
set_option maxRecDepth 100000
set_option maxHeartbeats 4000000
/-! AM 27: instances made by keywords alone. -/
namespace AM
open PySem PySem.Spec PyProof.Rows L2
def makeKA (c : Str) (n : Nat) (F : List SV → AH → R AV) (m : Nat) (perm : List Nat) (bs : List AV) (M : AH) : R AV :=
  if bs.length = m ∧ (permL perm (.ref M.length :: bs)).length = n then madeR M.length (F ((permL perm (.ref M.length :: bs)).map .val) (M ++ [.ins c []])) else .bad
def makeK (c : Str) (n : Nat) (F : List SV → AH → R AV) (m : Nat) (perm : List Nat) (rk : CA) : CE := fun vs M => (rk vs M).bind (makeKA c n F m perm)
structure KnIW (κ : Cfg) (k : Nat) (c : Str) (n : Nat) (F : List SV → AH → R AV) (ks : List Str) (perm : List Nat) : Prop where
  ex : ∃ (C f : Addr) (fd : FuncData) (ps : List Str), κ.mg c = some (.ref C) ∧ Mk κ.K C f ∧ FnG κ k f fd ps (spF κ n F) ∧ KBn κ.K fd ps 1 ks (fun us ws => permL perm (us ++ ws)) (fun us ws => permL perm (us ++ ws))
theorem KnIW.mono {κ : Cfg} {i k n : Nat} {c : Str} {F : List SV → AH → R AV} {ks : List Str} {perm : List Nat} (h : KnIW κ i c n F ks perm) (hk : i ≤ k) : KnIW κ k c n F ks perm := by
  obtain ⟨C, f, fd, ps, h1, h2, h3, h4⟩ := h.ex
  exact ⟨C, f, fd, ps, h1, h2, h3.mono hk, h4⟩
theorem kniw_of {κ : Cfg} {k n : Nat} {c y qual : Str} {C f : Addr} {fd : FuncData} {ps ks : List Str} {perm : List Nat} {params : Arguments} {body : List Stmt} {scope : Scope} {kws : List (Str × V)} {F : List SV → AH → R AV} (g : κ.mg c = some (.ref C)) (m : Mk κ.K C f) (D : FunD κ.K y qual params body scope [] kws f fd)
    (hb : ∀ (kV doc pm : Value) (an : Option Addr) (cdv ct : Value) (us vs : List Value), us.length = 1 → vs.length = ks.length → bindArgs (PySem.W.fnOf y qual params body scope .none kV doc pm an cdv ct) ⟨us, ks.zip vs⟩ = pure (ps.zip (permL perm (us ++ vs))))
    (h : FnG κ k f fd ps (spF κ n F)) : KnIW κ k c n F ks perm := by
  refine ⟨C, f, fd, ps, g, m, h, ⟨?_, fun a b => vals_perm (vals_appB a b) perm⟩⟩
  obtain ⟨oc, od, dV, kV, doc, pm, an, cdv, ct, osl, rfl, lk, hcd, hD, hK⟩ := D.ex
  rcases hD with ⟨_, rfl⟩ | ⟨e, _⟩
  · exact fun s us ws _ h1 h2 => .of_eq (hb kV doc pm an cdv ct us ws h1 h2)
  · exact absurd rfl e
section
variable [Tb] {X : Cx} {W : WX} {pos p : Pos} {c : Str} {rk : CA} {k n : Nat} {F : List SV → AH → R AV} {ks : List Str} {perm : List Nat} {kws : List Keyword}
theorem run_makeK {pins : List (Addr × Obj)} {σ : L2.St} {H : Hp} {s : Shared} {Q : VK} {ws : List Value} {zs : List V} {C f : Addr} {fd : FuncData} {ps : List Str} {sp : Sp} (M : Mk X.K C f) (B : Be X W (k + 1)) (F : FnG (kf X) k f fd ps sp) (hb : KBn X.K fd ps 1 ks (fun us ws => permL perm (us ++ ws)) (fun us ws => permL perm (us ++ ws)))
    (I : Inv X pins σ H s) (rz : Vals zs ws) (l2 : zs.length = ks.length)
    (h : ∀ x dx, H x = none → H dx = none → dx ≠ x → sp (permL perm (.ref x :: zs)) (upd (upd H dx (.own x)) x (.ins C dx [])) (fun v H2 => v = .non ∧ Q (.ref x) H2) (WE W σ)) :
    wpAny (model X.prog X.w) X.A (call (.ref C) [] (ks.zip ws)) (EP X pins σ Q) X.xe s := by
  have hq := h (s.heap.objs.size + 1) s.heap.objs.size (I.hok.fresh (Nat.le_succ _)) (I.hok.fresh (Nat.le_refl _)) (Nat.ne_of_lt (Nat.lt_succ_self _))
  have I2 := Inv.made (C := C) I
  have r1 : Vals [V.ref (s.heap.objs.size + 1)] [Value.ref (s.heap.objs.size + 1)] := .cons rfl .nil
  have r2 := hb.rel r1 rz
  have e2 : ws.length = ks.length := rz.length.symm.trans l2
  refine wpAny_call (make_map (f := f) I.kIn M.makes M.init (beq_iff_eq.mp M.fn) (codeAny_mono (F.run _ X.stack _ _ ⟨[Value.ref (s.heap.objs.size + 1)], ks.zip ws⟩ (permL perm ([Value.ref (s.heap.objs.size + 1)] ++ ws)) _ _ (WE W σ) (B.room.make C [] (ks.zip ws)) (guards_make.trans B.gd)
    (I2.env0.make C [] (ks.zip ws)) (hb.to _ [Value.ref (s.heap.objs.size + 1)] ws I2.kIn rfl e2) r2 hq) fun r s' hq' => ?_))
  cases r with
  | error e => exact passAt B.tk σ pins _ _ e s' I2 hq'
  | ok fl =>
    cases fl with
    | ret u =>
      obtain ⟨v, H', I3, rv, ev, q3⟩ := I2.after hq'
      subst ev
      exact ⟨rv, ⟨V.ref (s.heap.objs.size + 1), H', I3, rfl, q3⟩⟩
    | next => exact False.elim hq'
    | brk => exact False.elim hq'
    | cont => exact False.elim hq'
theorem make_goalK {m : Nat} {ι : List Addr} {vs : Loc} {M : AH} {σ : L2.St} {H : Hp} {Q : VK} {bs : List AV} {ws : List V} {C x dx : Addr} (hr : Rel (kf X) ι vs M σ H) (hm : X.mg c = some (.ref C)) (hb : VRs (kf X) ι H bs ws) (o : Out (kf X) W (VR (kf X)) ι vs σ H Q (makeKA c n F m perm bs M))
    (hx : H x = none) (hdx : H dx = none) (hne : dx ≠ x) : spF (kf X) n F (permL perm (.ref x :: ws)) (upd (upd H dx (.own x)) x (.ins C dx [])) (fun v H2 => v = .non ∧ Q (.ref x) H2) (WE W σ) := by
  unfold makeKA at o
  split at o
  case isFalse => exact o.elim
  rename_i hl
  obtain ⟨_, hl⟩ := hl
  have k1 : Keep H (upd H dx (.own x)) := Keep.new hdx
  have hx1 : upd H dx (.own x) x = none := by rw [upd_ne (Ne.symm hne)]; exact hx
  have k2 : Keep (upd H dx (.own x)) (upd (upd H dx (.own x)) x (.ins C dx [])) := Keep.new hx1
  have kk := k1.trans k2
  have rep2 : Rep (kf X) (ι ++ [x]) (M ++ [.ins c []]) (upd (upd H dx (.own x)) x (.ins C dx [])) := (hr.rep.other hdx).snoc hx1 ⟨C, dx, [], hm, upd_same, rfl, .nil⟩
  have sl2 : SLs (kf X) (ι ++ [x]) (upd (upd H dx (.own x)) x (.ins C dx [])) vs σ := hr.sl.mono (List.prefix_append _ _) kk
  have vx : VR (kf X) (ι ++ [x]) (upd (upd H dx (.own x)) x (.ins C dx [])) (.ref M.length) (.ref x) := by
    rw [vr_ref]
    exact ⟨x, by rw [← hr.rep.len]; simp, rfl⟩
  have hp := permL_vrs (VRs.cons vx (hb.mono (List.prefix_append _ _) kk)) perm
  refine ⟨by rw [← hp.length]; exact hl, ι ++ [x], _, _, rep2, paired_val hp, ?_⟩
  unfold madeR at o
  cases e : F ((permL perm (.ref M.length :: bs)).map .val) (M ++ [.ins c []]) with
  | ok a M' =>
    rw [e] at o
    dsimp only at o
    cases a with
    | non =>
      refine fun ι' H' v h1 h2 h3 h4 => ?_
      rw [vr_non] at h4
      refine ⟨h4, o ι' H' _ ((List.prefix_append _ _).trans h1) (kk.trans h2) ⟨sl2.mono h1 h2, h3⟩ (vx.mono h1 h2)⟩
    | _ => exact o.elim
  | exc c' fs M' =>
    rw [e] at o
    exact fun ι' H' C d h1 h2 h3 h4 => o ι' H' C d ((List.prefix_append _ _).trans h1) (kk.trans h2) ⟨sl2.mono h1 h2, h3⟩ h4
  | bad => rw [e] at o; exact o
theorem ev_makeK0 (B : Be X W (k + 1)) (hk : KnIW (kf X) k c n F ks perm) (hg : Gl X c) (hkw : EvK X W kws rk) (hall : (backToKw pos (keywordEach kws X.env)).all (·.1.isSome) = true := by rfl) (hks : (backToKw pos (keywordEach kws X.env)).filterMap (·.1) = ks := by rfl)
    (hdb : (c == ("__debug__" : Str)) = false := by decide +kernel)
    (hpl : ((backTo pos (starEach [] X.env)).any (·.1) || (backToKw pos (keywordEach kws X.env)).any (·.1.isNone)) = false := by rfl) : EvE X W (.Call (.Name c p) [] kws pos) (makeK c n F ks.length perm rk) := by
  obtain ⟨C, f, fd, ps, h1, h2, h3, h4⟩ := hk.ex
  refine ⟨fun pins s σ H Q I ⟨ι, vs, M, hr, o⟩ => ?_⟩
  refine wpAny_Call_Name_kw (ld_glob I hg h1 ?_ hdb)
  have hq : rdA (kf X) W rk σ H fun ws H2 => ∃ ι1 bs M1, Rel (kf X) ι1 vs M1 σ H2 ∧ VRs (kf X) ι1 H2 bs ws ∧ Out (kf X) W (VR (kf X)) ι1 vs σ H2 Q (makeKA c n F ks.length perm bs M1) :=
    Out.run hr o fun ι2 bs M2 ws H2 b1 b2 b3 b4 b5 => ⟨ι2, bs, M2, b3, b4, b5⟩
  refine PySem.W.callWith_KW0 (h₀ := X.base) I.ok.mod.kin h2.kp hall ?_ hpl
  refine thn (hkw.run pos pins s σ H _ I hq) fun us2 s2 ⟨ws, H2, I2, r2, ι1, bs, M1, g1, g3, g4⟩ => ⟨I2.kIn, ?_⟩
  rw [hks]
  have hlb : bs.length = ks.length := by
    unfold makeKA at g4
    split at g4
    case isFalse => exact g4.elim
    rename_i hl
    exact hl.1
  show wpAny _ _ (call (.ref C) [] (ks.zip us2)) _ _ _
  exact run_makeK h2 B h3 h4 I2 r2 (by rw [← g3.length]; exact hlb) fun x dx a1 a2 a3 => make_goalK g1 h1 g3 g4 a1 a2 a3
end
end AM
end

section
set_option Elab.async false
set_option linter.all false
set_option autoImplicit false
set_option maxRecDepth 100000
set_option maxHeartbeats 4000000
/-! AM 28: == and != of own instances with anything. -/
namespace AM
open PySem PySem.Spec PyProof.Rows L2
section
variable {prog : Program} {w : World} {A : Around} {E : Value → Shared → Prop} {s : Shared} {K : PySem.W.Frag} {x C L f : Addr} {h₀ : Heap} {m : Str → Option Value} {ox : Obj} {od : Option Obj} {b tb : Value}
theorem slot_obj_ne : Slot "object" "__ne__" "object.__ne__" :=
  .of (owner := "object") (n := "__ne__") (by rw [typeLookup_type, builtinLookup_eq_fast]; kernel_rfl) (by decide +kernel) (by decide +kernel) (by decide +kernel)
    (by first | exact .inl (by decide +kernel) | exact .inr (by decide +kernel)) (by rw [isSubtype_type]; kernel_rfl)
/-- x != b, by an own __eq__ alone -/
theorem ne_K {Q : Value → Shared → Prop} (hu : A.units + 1 < cLine) (F : Fr h₀ L s.heap m) (X₀ : K.In h₀) (I : PySem.W.InstAt s.heap x ox C od) (hb : PySem.W.Looks (model prog w) s.heap (typeOf b) tb) (hn : PySem.W.notFirst K C tb = true)
    (hs : PySem.W.findIn K (.ref C) "__ne__" = some (some (.builtin "object.__ne__"))) (he : PySem.W.findIn K (.ref C) "__eq__" = some (some (.ref f))) (hf : PySem.W.isFn K (.ref f) = true) (ho : PySem.W.mroIn K C (.type "object") = some true)
    (h : wpAny (model prog w) A.in1 (call (.ref f) [.ref x, b]) (fun v s' => ∃ r, v = .bool r ∧ Q (.bool (!r)) s') E s) : wpAny (model prog w) A (richCompare .NotEq (.ref x) b) Q E s := by
  have X := X₀.keeps F.keep
  have sp : PySem.W.Looks (model prog w) s.heap (specialOf (.ref x) "__ne__") (some (.builtin "object.__ne__")) := by
    unfold specialOf
    exact I.type.andThen (PySem.W.looks_findIn X hs)
  have iv : PySem.W.Looks (model prog w) s.heap (isInstance (.ref x) (.type "object")) true := by
    unfold isInstance
    exact I.type.andThen (PySem.W.looks_subIn X (t := .ref C) ho)
  have one : wpAny (model prog w) A (tryCompare (.ref x) (cmpInfo .NotEq).2.1 b) (fun r s' => ∃ v, r = some v ∧ Q v s') E s := by
    rw [cmpInfo_NotEq]
    dsimp only
    unfold tryCompare
    refine wpAny_bind (NtL.csib sp (slot_obj_ne.bind _) ?_)
    refine wpAny_call (codeAny_call_builtin slot_obj_ne.plain PySem.F.cmpEntry_ne (@PySem.W.check_slot (model prog w) _ _ _ "object.__ne__" "object" "__ne__" (.ref x) [b] [] _ (by decide +kernel) (by decide +kernel) iv (PySem.F.cmpArgs_ne _ _) ?_))
    unfold Builtin.«object.__ne__»
    repeat (first
      | with_reducible refine wpAny_cRoomFor (show A.in1.units < cLine from hu) ?_
      | (refine wpAny_bind (m := callSpecialIfBound? (.ref x) (Str.ofString "__eq__") [b]) (PySem.W.ifBound_K X I he hf (wpAny_mono h (fun v s' hv => ?_) fun _ _ e => e)))
      | wp_step)
    obtain ⟨r, rfl, hq⟩ := hv
    repeat (first | exact ⟨_, rfl, hq⟩ | exact hq | exact wpAny_pure ⟨_, rfl, hq⟩ | (refine wpAny_bind (m := truthy (.bool _)) (wpAny_truthy_bool ?_)) | wp_step)
  unfold richCompare
  simp only [oneThing_ref]
  refine wpAny_holding (wpAny_bind (wpAny_cRoomFor (Nat.lt_of_succ_lt hu) ?_))
  refine wpAny_bind (I.type.here (wpAny_bind (hb.here ?_)))
  split
  · rename_i q
    have e : PySem.W.subIn K tb (.ref C) = some false := by
      rcases Bool.or_eq_true_iff.mp hn with e | e
      · rw [beq_iff_eq.mp e] at q; simp at q
      · exact beq_iff_eq.mp e
    refine wpAny_bind ((PySem.W.looks_subIn X e).here ?_)
    simp only [Bool.false_eq_true, if_false]
    refine wpAny_bind (wpAny_mono one (fun r s' z => ?_) fun _ _ e => e)
    obtain ⟨v, rfl, hq⟩ := z
    exact wpAny_pure hq
  · refine wpAny_bind (wpAny_pure ?_)
    simp only [Bool.false_eq_true, if_false]
    refine wpAny_bind (wpAny_mono one (fun r s' z => ?_) fun _ _ e => e)
    obtain ⟨v, rfl, hq⟩ := z
    exact wpAny_pure hq
end
end AM
end

section
set_option Elab.async false
set_option linter.all false
set_option autoImplicit false
set_option maxRecDepth 100000
set_option maxHeartbeats 4000000
/-! AM 29: == and != over functions, own instances, data; isinstance among several own classes. -/
namespace AM
open PySem PySem.Spec PyProof.Rows L2
def tnames : List String := ["NoneType", "bool", "int", "str", "tuple", "list", "dict", "function"]
/-- what the written part says of comparing own instances, and of own classes among themselves -/
structure CmpF (κ : Cfg) (ws : List Str) : Prop where
  ok : ∀ c C, c ∈ ws → κ.mg c = some (.ref C) → PySem.W.findIn κ.K (.ref C) "__ne__" = some (some (.builtin "object.__ne__")) ∧ PySem.W.mroIn κ.K C (.type "object") = some true ∧ (∀ a ∈ tnames, PySem.W.notFirst κ.K C (.type a) = true) ∧
    ∀ d D, d ∈ ws → κ.mg d = some (.ref D) → PySem.W.notFirst κ.K C (.ref D) = true ∧ (d ≠ c → PySem.W.kitOne κ.K (.ref C) (.ref D) = some false)
def cmB (ws : List Str) (x : Str) (K : PySem.W.Frag) : Bool :=
  He.eqO (PySem.W.findIn K (.ref (He.ga K x)) "__ne__") (some (some (.builtin "object.__ne__"))) && (decide (PySem.W.mroIn K (He.ga K x) (.type "object") = some true) && (tnames.all (fun a => PySem.W.notFirst K (He.ga K x) (.type a)) &&
    ws.all fun d => PySem.W.notFirst K (He.ga K x) (.ref (He.ga K d)) && (decide (d = x) || decide (PySem.W.kitOne K (.ref (He.ga K x)) (.ref (He.ga K d)) = some false))))
theorem cmB_ok {ws : List Str} {κ : Cfg} (h : ∀ x ∈ ws, cmB ws x κ.K = true ∧ κ.mg x = some (.ref (He.ga κ.K x))) : CmpF κ ws := by
  refine ⟨fun x C hx e => ?_⟩
  obtain ⟨h1, g⟩ := h x hx
  have e2 : Value.ref C = .ref (He.ga κ.K x) := Option.some.inj (e.symm.trans g)
  cases e2
  obtain ⟨h1, h2⟩ := He.ba h1
  obtain ⟨h2, h3⟩ := He.ba h2
  obtain ⟨h3, h4⟩ := He.ba h3
  refine ⟨He.eqO_ok h1, of_decide_eq_true h2, fun a ha => List.all_eq_true.mp h3 a ha, fun d D hd ed => ?_⟩
  have e3 : Value.ref D = .ref (He.ga κ.K d) := Option.some.inj (ed.symm.trans (h d hd).2)
  cases e3
  obtain ⟨k1, k2⟩ := He.ba (List.all_eq_true.mp h4 d hd)
  refine ⟨k1, fun ne => ?_⟩
  rcases Bool.or_eq_true_iff.mp k2 with z | z
  · exact absurd (of_decide_eq_true z) ne
  · exact of_decide_eq_true z
/-- a's own ==, asked with b -/
def eqOwn (fns ws : List Str) (es : List (Str × (List SV → AH → R AV))) (a b : AV) (M : AH) : Option (R Bool) := match a with
  | .ref i => match insOf M i with
    | some c => some (match es.lookup c, tyA fns ws M b with
      | some F, some _ => if c ∈ ws then (match F [.val a, .val b] M with
        | .ok (.bl k) M' => .ok k M'
        | _ => .bad) else .bad
      | _, _ => .bad)
    | none => none
  | _ => none
def opEqF (fns : List Str) (a b : AV) (M : AH) : R AV := match a, b with
  | .glo x, .glo y => if x = y ∧ x ∈ fns then .ok (.bl true) M else .bad
  | a, b => opEq a b M
def opEqX (fns ws : List Str) (es : List (Str × (List SV → AH → R AV))) (a b : AV) (M : AH) : R AV := match eqOwn fns ws es a b M with
  | some r => r.bind fun k M' => .ok (.bl k) M'
  | none => opEqF fns a b M
def opNeX (fns ws : List Str) (es : List (Str × (List SV → AH → R AV))) (a b : AV) (M : AH) : R AV := match eqOwn fns ws es a b M with
  | some r => r.bind fun k M' => .ok (.bl (!k)) M'
  | none => opNe a b M
/-- every class in the list has that == -/
structure KnEqs (κ : Cfg) (k : Nat) (es : List (Str × (List SV → AH → R AV))) : Prop where
  ok : ∀ c F, es.lookup c = some F → KnEq κ k c F
theorem KnEqs.nil {κ : Cfg} {k : Nat} : KnEqs κ k [] := ⟨fun _ _ e => by cases e⟩
theorem KnEqs.cons {κ : Cfg} {k : Nat} {c : Str} {F : List SV → AH → R AV} {es : List (Str × (List SV → AH → R AV))} (h : KnEq κ k c F) (t : KnEqs κ k es) : KnEqs κ k ((c, F) :: es) := by
  refine ⟨fun d G e => ?_⟩
  rw [List.lookup_cons] at e
  split at e
  · rename_i q
    rw [beq_iff_eq.mp q]
    cases e
    exact h
  · exact t.ok d G e
section
variable [Tb] {X : Cx} {W : WX} {k : Nat} {fns ws : List Str} {es : List (Str × (List SV → AH → R AV))}
/-- the type of a value, looked up -/
theorem ty_look {pins : List (Addr × Obj)} {σ0 : L2.St} {H : Hp} {s : Shared} {ι : List Addr} {M : AH} {a : AV} {x : V} {u : Value} {t : AT} (I : Inv X pins σ0 H s) (G : GloFn (kf X) fns) (F : IsF (kf X) ws) (rep : Rep (kf X) ι M H) (h : VR (kf X) ι H a x) (r : RelV x u) (e : tyA fns ws M a = some t) :
    ∃ tv, PySem.W.Looks (model X.prog X.w) s.heap (typeOf u) tv ∧ TV (kf X) t tv ∧ ∀ c, t = .own c → c ∈ ws := by
  obtain ⟨P, tv, Z, p, _, hT, hw⟩ := kit_av I G F rep h r e
  exact ⟨tv, Z.ty _ _ I.kIn p, hT, hw⟩
theorem nf_ty (C : CmpF (kf X) ws) {c : Str} {A : Addr} (hc : c ∈ ws) (m : X.mg c = some (.ref A)) {t : AT} {tv : Value} (hT : TV (kf X) t tv) (hw : ∀ c, t = .own c → c ∈ ws) : PySem.W.notFirst X.K A tv = true := by
  obtain ⟨_, _, h3, h4⟩ := C.ok c A hc m
  cases t with
  | own d =>
    obtain ⟨D, md, rfl⟩ := hT
    exact (h4 d D (hw d rfl) md).1
  | _ =>
    have hT : tv = .type _ := hT
    subst hT
    exact h3 _ (by decide)
/-- what runs when an own == is asked -/
theorem own_run {n : Nat} {A' : Around} (hroom : Room n A') (hg : A'.guards = some []) (hfr : A'.frames = X.A.frames) (tk : Takes X W) {c : Str} {F : List SV → AH → R AV} {pins : List (Addr × Obj)} {σ σ0 : L2.St} {H : Hp} {s : Shared} {ι : List Addr} {vs : Loc} {M M' : AH} {a b : AV} {x y : V} {u v : Value} {C : Addr} {kk : Bool} {P : Value → Shared → Prop}
    (E : KnEq (kf X) n c F) (m : X.mg c = some (.ref C)) (I : Inv X pins σ0 H s) (hr : Rel (kf X) ι vs M σ H) (ha : VR (kf X) ι H a x) (hb : VR (kf X) ι H b y) (rx : RelV x u) (ry : RelV y v)
    (e : F [.val a, .val b] M = .ok (.bl kk) M') (fin : ∀ (ι' : List Addr) (H' : Hp) (s' : Shared), ι <+: ι' → Keep H H' → Rel (kf X) ι' vs M' σ H' → Inv X pins σ0 H' s' → P (.bool kk) s') :
    ∃ f, PySem.W.findIn X.K (.ref C) "__eq__" = some (some (.ref f)) ∧ PySem.W.isFn X.K (.ref f) = true ∧ wpAny (model X.prog X.w) A' (call (.ref f) [u, v]) P X.xe s := by
  obtain ⟨f, fd, ps, f1, f2, f3, f4⟩ := E.ex C m
  refine ⟨f, f1, f2, ?_⟩
  have hsp : spF (kf X) 2 F [x, y] H (fun w H' => w = .bl kk ∧ ∃ ι', ι <+: ι' ∧ Keep H H' ∧ Rel (kf X) ι' vs M' σ H') (fun _ _ _ => False) := by
    refine ⟨rfl, ι, M, _, hr.rep, .cons (show SVR (kf X) ι H (.val a) _ from ha) (.cons (show SVR (kf X) ι H (.val b) _ from hb) .nil), ?_⟩
    rw [e]
    refine fun ι' H' w h1 h2 h3 h4 => ?_
    rw [vr_bl] at h4
    exact ⟨h4, ι', h1, h2, hr.sl.mono h1 h2, h3⟩
  have hl := f3.len _ _ _ _ hsp
  have r2 : Vals [x, y] [u, v] := .cons rx (.cons ry .nil)
  have e0 : Env0 X.prog X.w X.K X.mg X.base A' X.stack s H := by
    have e := I.env0
    exact ⟨by rw [hfr]; exact e.frames, e.mod, e.bs, e.bsz, e.funs, e.frf, e.hok, e.bare⟩
  refine wpAny_call (codeAny_mono (f3.run A' X.stack s H ⟨[u, v], []⟩ [u, v] [x, y] _ (fun _ _ _ => False) hroom hg e0 (by
    have := f4 s [u, v] I.kIn (by simpa using hl)
    simpa using this) r2 hsp) fun r s' hq => ?_)
  cases r with
  | error e => exact tk e s' (XE.of_call I (fun _ _ _ h => h.elim) hq)
  | ok fl =>
    cases fl with
    | ret w =>
      obtain ⟨z, H', I', rz, ez, ι', k1, k2, k3⟩ := I.after hq
      subst ez
      cases rz
      exact fin ι' H' _ k1 k2 k3 I'
    | next => exact False.elim hq
    | brk => exact False.elim hq
    | cont => exact False.elim hq
/-- what an own compare stands on -/
theorem own_cases {a b : AV} {M : AH} {r : R Bool} {β : Type} {rel : List Addr → Hp → AV → β → Prop} {ι : List Addr} {vs : Loc} {σ : L2.St} {H : Hp} {Q : β → Hp → Prop} {g : Bool → Bool} (h : eqOwn fns ws es a b M = some r) (o : Out (kf X) W rel ι vs σ H Q (r.bind fun k M' => .ok (.bl (g k)) M')) :
    ∃ i c F t kk M', a = .ref i ∧ insOf M i = some c ∧ es.lookup c = some F ∧ tyA fns ws M b = some t ∧ c ∈ ws ∧ F [.val a, .val b] M = .ok (.bl kk) M' ∧ Out (kf X) W rel ι vs σ H Q (.ok (.bl (g kk)) M') := by
  unfold eqOwn at h
  split at h
  case h_2 => cases h
  rename_i i
  split at h
  case h_2 => cases h
  rename_i c hc
  cases h
  split at o
  case h_2 => exact o.elim
  rename_i F t hF ht
  split at o
  case isFalse => exact o.elim
  rename_i hw
  split at o
  · rename_i kk M' e
    exact ⟨i, c, F, t, kk, M', rfl, hc, hF, ht, hw, e, o⟩
  · exact o.elim
theorem ins_of {ι : List Addr} {vs : Loc} {M : AH} {σ : L2.St} {H : Hp} {i : Nat} {c : Str} {x : V} (hr : Rel (kf X) ι vs M σ H) (ha : VR (kf X) ι H (.ref i) x) (h : insOf M i = some c) : ∃ p C dx gs, x = .ref p ∧ X.mg c = some (.ref C) ∧ H p = some (.ins C dx gs) := by
  rw [vr_ref] at ha
  obtain ⟨p, ei, rfl⟩ := ha
  unfold insOf at h
  split at h
  case h_2 => cases h
  rename_i c' fs em
  cases h
  obtain ⟨C, dx, gs, k0, k1, _⟩ := hr.rep.at_ em ei
  exact ⟨p, C, dx, gs, rfl, k0, k1⟩
theorem ok_eqX (B : Be X W (k + 1)) (G : GloFn (kf X) fns) (F : IsF (kf X) ws) (C : CmpF (kf X) ws) (E : KnEqs (kf X) k es) : OpR X (compareOp .Eq) (rd2 (kf X) W (opEqX fns ws es)) := by
  intro pins s σ0 H x y v u Q I rx ry ⟨ι, vs, M, σ, a, b, hr, ha, hb, o⟩
  unfold opEqX at o
  split at o
  · rename_i r er
    obtain ⟨i, c, Fe, t, kk, M', rfl, hi, hF, ht, hw, e, o⟩ := own_cases (g := fun k => k) er o
    obtain ⟨p, A, dx, gs, rfl, m, hp⟩ := ins_of hr ha hi
    obtain ⟨tv, lk, hT, hwt⟩ := ty_look I G F hr.rep hb ry ht
    have nf := nf_ty C hw m hT hwt
    have rx' : v = Value.ref p := rx
    subst rx'
    obtain ⟨mA, J, _⟩ := ins_get I.hok hp
    obtain ⟨od, J, _⟩ := J.look
    obtain ⟨m', hFr⟩ := I.fr
    obtain ⟨f, f1, f2, f3⟩ := own_run (A' := X.A) (P := PySem.W.CmpBack (EP X pins σ0 Q)) (B.room.mono (Nat.le_succ k)) B.gd rfl B.tk (E.ok c Fe hF) m I hr ha hb rfl ry e (fun ι' H' s' h1 h2 h3 I' => ⟨.bl kk, H', I', rfl, o ι' H' _ h1 h2 h3 (by rw [vr_bl])⟩)
    show wpAny _ _ (richCompare .Eq _ _) _ _ s
    exact PySem.W.cmp_K (op := .Eq) B.room.units0 hFr I.ok.mod.kin J lk nf f1 f2 f3
  · unfold opEqF at o
    split at o
    · split at o
      case isFalse => exact o.elim
      rename_i hxy
      obtain ⟨rfl, hm⟩ := hxy
      rw [vr_glo] at ha hb
      obtain ⟨f, e1, rfl⟩ := ha
      obtain ⟨g, e2, rfl⟩ := hb
      rw [e1] at e2; cases e2
      cases rx; cases ry
      obtain ⟨of, l1, l2⟩ := G.ok _ _ hm e1
      have hT : s.TypeIs (.ref f) "function" := ⟨of, I.kIn _ _ l1, l2⟩
      show wpAny _ _ (richCompare .Eq _ _) _ _ s
      exact wpAny_richCompare_same_room (T := "function") hT hT slot_fn_eq
        (GQ.call_here slot_fn_eq hT PySem.F.entry_object_eq (PySem.F.args_object_eq_2 _ _) (objEq_entry_same (show (Value.bool true ≠ .notImplemented ∧ EP X pins σ0 Q (.bool true) s) from ⟨(by intro e; cases e), .bl true, H, I, rfl, Out.fin hr o (by rw [vr_bl])⟩))) B.room.units0
    · exact ok_eq B.u64 pins s σ0 H x y v u Q I rx ry ⟨ι, vs, M, σ, _, _, hr, ha, hb, o⟩
theorem ok_neX (B : Be X W (k + 1)) (G : GloFn (kf X) fns) (F : IsF (kf X) ws) (C : CmpF (kf X) ws) (E : KnEqs (kf X) k es) : OpR X (compareOp .NotEq) (rd2 (kf X) W (opNeX fns ws es)) := by
  intro pins s σ0 H x y v u Q I rx ry ⟨ι, vs, M, σ, a, b, hr, ha, hb, o⟩
  unfold opNeX at o
  split at o
  · rename_i r er
    obtain ⟨i, c, Fe, t, kk, M', rfl, hi, hF, ht, hw, e, o⟩ := own_cases (g := fun k => !k) er o
    obtain ⟨p, A, dx, gs, rfl, m, hp⟩ := ins_of hr ha hi
    obtain ⟨tv, lk, hT, hwt⟩ := ty_look I G F hr.rep hb ry ht
    have nf := nf_ty C hw m hT hwt
    obtain ⟨c1, c2, _, _⟩ := C.ok c A hw m
    have rx' : v = Value.ref p := rx
    subst rx'
    obtain ⟨mA, J, _⟩ := ins_get I.hok hp
    obtain ⟨od, J, _⟩ := J.look
    obtain ⟨m', hFr⟩ := I.fr
    obtain ⟨f, f1, f2, f3⟩ := own_run (A' := X.A.in1) (P := fun v s' => ∃ r, v = .bool r ∧ EP X pins σ0 Q (.bool (!r)) s') B.room.in1 B.gd rfl B.tk (E.ok c Fe hF) m I hr ha hb rfl ry e (fun ι' H' s' h1 h2 h3 I' => ⟨kk, rfl, .bl (!kk), H', I', rfl, o ι' H' _ h1 h2 h3 (by rw [vr_bl])⟩)
    show wpAny _ _ (richCompare .NotEq _ _) _ _ s
    exact ne_K (Nat.lt_of_le_of_lt (by omega) B.u64) hFr I.ok.mod.kin J lk nf c1 f1 f2 c2 f3
  · exact ok_ne B.u64 pins s σ0 H x y v u Q I rx ry ⟨ι, vs, M, σ, _, _, hr, ha, hb, o⟩
/-- isinstance, several own classes -/
def isA2 (fns ws : List Str) (as : List AV) (M : AH) : R AV := match as with
  | [x, .glo d] => match tyA fns ws M x with
    | some (.own c) => if c ∈ ws ∧ d ∈ ws ∧ c ≠ d then .ok (.bl false) M else isA fns ws as M
    | _ => isA fns ws as M
  | _ => isA fns ws as M
theorem cr_isa2 (G : GloFn (kf X) fns) (F : IsF (kf X) ws) (C : CmpF (kf X) ws) : CallR X (.builtin "isinstance") (rdN (kf X) W (isA2 fns ws)) := by
  intro pins s σ0 H xs us Q I r ⟨ι, vs, M, σ, as, hr, ha, o⟩
  unfold isA2 at o
  split at o
  · rename_i x d
    split at o
    · rename_i c et
      split at o
      · rename_i hcd
        obtain ⟨hc, hd, hne⟩ := hcd
        obtain ⟨vx, ws1, rfl, h1, h2⟩ := ha.cons_inv
        obtain ⟨vc, ws2, rfl, h3, h4⟩ := h2.cons_inv
        obtain rfl := h4.nil_inv
        obtain ⟨u1, u2, rfl, r1, r2⟩ := vals2 r
        obtain ⟨P, tv, Z, p, hx, hT, hw⟩ := kit_av I G F hr.rep h1 r1 et
        obtain ⟨A, mA, rfl⟩ := hT
        rw [vr_glo] at h3
        obtain ⟨D, mD, rfl⟩ := h3
        cases (show u2 = Value.ref D from r2)
        exact PySem.W.kia_one Z I.kIn p ((C.ok c A hc mA).2.2.2 d D hd mD |>.2 (Ne.symm hne)) hx fun tk => ⟨.bl false, H, I.tok tk, rfl, Out.fin hr o (by rw [vr_bl])⟩
      · exact cr_isa G F pins s σ0 H xs us Q I r ⟨ι, vs, M, σ, _, hr, ha, o⟩
    · exact cr_isa G F pins s σ0 H xs us Q I r ⟨ι, vs, M, σ, _, hr, ha, o⟩
  · exact cr_isa G F pins s σ0 H xs us Q I r ⟨ι, vs, M, σ, _, hr, ha, o⟩
end
end AM
end

section
set_option Elab.async false
set_option linter.all false
set_option autoImplicit false
set_option maxRecDepth 100000
set_option maxHeartbeats 4000000
/-! AM 30: xs[::-1] of a list. -/
namespace AM
open PySem PySem.Spec PyProof.Rows L2
def revA (a : AV) (M : AH) : R AV := match a with
  | .ref i => match M[i]? with
    | some (.lst xs) => newL xs.reverse M
    | some (.frz xs) => newL xs.reverse M
    | _ => .bad
  | _ => .bad
def revC (ca : CE) (st : CO) : CE := fun vs M => (ca vs M).bind fun a M1 => (st vs M1).bind fun k M2 => if k = some (-1) then revA a M2 else .bad
theorem vrs_rev {κ : Cfg} {ι : List Addr} {H : Hp} : ∀ {xs : List AV} {ws : List V}, VRs κ ι H xs ws → VRs κ ι H xs.reverse ws.reverse
  | [], ws, h => by rw [h.nil_inv]; exact .nil
  | x :: xs, ws, h => by
    obtain ⟨v, us, rfl, r, t⟩ := h.cons_inv
    rw [List.reverse_cons, List.reverse_cons]
    exact (vrs_rev t).app (.cons r .nil)
section
variable [Tb] {X : Cx} {W : WX} {e : Expr} {se : Option Expr} {pos p2 : Pos} {ca : CE} {cst : CO}
theorem ev_rev (he : EvE X W e ca) (hst : EvO X W se cst) (hs : ∀ o i, ∃ ops, subscripted (.Slice none none se p2) false o i = operate ops (getItem o i) := by intro o i; exact ⟨_, by with_unfolding_all rfl⟩) : EvE X W (.Subscript e (.Slice none none se p2) pos) (revC ca cst) := by
  refine ⟨fun pins s σ H Q I ⟨ι, vs, M, hr, o⟩ => ?_⟩
  refine Subscript_ (thn (he.run pins s σ H _ I (Out.run (Q1 := fun x H1 => rd (kf X) W relO cst σ H1 fun k H2 => ∃ ι1 M1 a, Rel (kf X) ι1 vs M1 σ H2 ∧ VR (kf X) ι1 H2 a x ∧ Out (kf X) W (VR (kf X)) ι1 vs σ H2 Q (if k = some (-1) then revA a M1 else .bad)) hr o fun ι1 a M1 v H1 h1 h2 h3 h4 h5 => Out.run h3 h5 fun ι2 k M2 k' H2 g1 g2 g3 g4 g5 => by
    subst g4
    exact ⟨ι2, M2, a, g3, h4.mono g1 g2, g5⟩)) fun v s1 ⟨x, H1, I1, r1, q1⟩ => ?_)
  refine wpAny_Slice ?_
  rw [evalPart_none]
  refine wpAny_pure ?_
  refine wpAny_pure ?_
  refine thn (hst.run pins s1 σ H1 _ I1 q1) fun vst s3 ⟨st, H3, I3, pst, ι1, M1, a, g1, g2, g3⟩ => ?_
  have I4 : Inv X pins σ H3 { s3 with heap := s3.heap.push { cls := .type "slice", data := .fields #[.none, .none, vst] } } := I3.kept (t' := s3.toks) fun b ob q => Heap.get?_push_of_some _ q
  split at g3
  case isFalse => exact g3.elim
  rename_i hk
  subst hk
  have go : ∀ {p : Addr} {xs : List AV} {ws : List V}, x = .ref p → VRs (kf X) ι1 H3 xs ws → SqL X.K H3 p ws → Out (kf X) W (VR (kf X)) ι1 vs σ H3 Q (newL xs.reverse M1) →
      wpAny (model X.prog X.w) X.A (subscriptTail e (.Slice none none se p2) v (.ref s3.heap.objs.size)) (EP X pins σ Q) X.xe { s3 with heap := s3.heap.push { cls := .type "slice", data := .fields #[.none, .none, vst] } } := by
    intro p xs ws ex hv hx o2
    subst ex
    obtain rfl : v = Value.ref p := r1
    obtain ⟨_, n⟩ := Out.newL g1 (vrs_rev hv) o2
    obtain ⟨its, r, ht, hz⟩ := I4.list hx
    obtain ⟨ops, ho⟩ := hs (.ref p) (.ref s3.heap.objs.size)
    refine tail_any (ops := ops) ht.isList.typeIs slot_list_getitem.lookup ?_ ho
    refine wpAny_getItem_list_slice ht.isList (Heap.IsSliceOf.new ..) .none .none pst (by decide) ?_ (by rw [List.size_toArray] <;> have := r.length <;> omega)
    rw [PySem.W.krv_pick]
    refine ⟨.ref (Heap.push s3.heap { cls := .type "slice", data := .fields #[.none, .none, vst] }).objs.size, _, I4.laid (t' := s3.toks) (o := .lst ws.reverse) (fun b ob q => Heap.get?_push_of_some _ q) (Nat.le_refl _) ?_, rfl, n _ (I4.hok.fresh (Nat.le_refl _))⟩
    refine ⟨by simpa using hz, _, 0, ?_, Heap.get?_push_size _ rfl⟩
    simpa using r.reverse
  unfold revA at g3
  split at g3
  case h_2 => exact g3.elim
  rename_i i
  rw [vr_ref] at g2
  obtain ⟨p, ei, ex⟩ := g2
  split at g3
  · rename_i xs q
    obtain ⟨ws, k1, k2⟩ := g1.rep.at_ q ei
    exact go ex k2 (SqL.of k1) g3
  · rename_i xs q
    obtain ⟨ob, ws, k1, k2⟩ := g1.rep.at_ q ei
    exact go ex k2 (.inl (.inr ⟨ob, k1⟩)) g3
  · exact g3.elim
end
end AM
end

section
set_option Elab.async false
set_option linter.all false
set_option autoImplicit false
set_option maxRecDepth 100000
set_option maxHeartbeats 4000000
/-! AM 31: != of dicts and functions with whole numbers. -/
namespace AM
open PySem PySem.Spec PyProof.Rows L2
section
variable {prog : Program} {w : World} {A : Around} {E : Value → Shared → Prop} {s : Shared}
theorem ne_unlike {a b : Value} {Ta Tb ida idb : String} {k : Bool} {Q : Value → Shared → Prop} (hu : A.units < cLine) (ha : s.TypeIs a Ta) (hb : ∀ s' : Shared, s'.TypeIs b Tb)
    (hne : (Value.type Ta != Value.type Tb) = true) (hsub : isSubtype (.type Tb) (.type Ta) = pure false) (h1 : Slot Ta (cmpInfo .NotEq).2.1 ida) (h2 : Slot Tb (cmpInfo .NotEq).2.2 idb) (hk : isSame a b = pure k)
    (hc : wpAny (model prog w) A (call (.builtin ida) [a, b]) (fun v s₁ => v = .notImplemented ∧ wpAny (model prog w) A (call (.builtin idb) [b, a]) (fun v s₂ => v = .notImplemented ∧ Q (.bool (!k)) s₂) E s₁) E s) :
    wpAny (model prog w) A (richCompare .NotEq a b) Q E s := by
  rcases hi : cmpInfo CmpOp.NotEq with ⟨sym, f, r⟩
  rw [hi] at h1 h2
  simp only [richCompare, hi, ha.oneThing_none]
  refine wpAny_holding (wpAny_bind (wpAny_cRoomFor hu ?_))
  refine wpAny_bind (wpAny_typeOf ha (wpAny_bind (wpAny_typeOf (hb s) ?_)))
  simp only [hne, if_true]
  refine wpAny_bind (wpAny_of_eq hsub ?_)
  simp only [Bool.false_eq_true, if_false, Bool.not_false, if_true]
  refine wpAny_bind (m := tryCompare a _ b) (wpAny_tryCompare_declines ha h1 (wpAny_mono hc (fun v s₁ h₁ => ⟨h₁.1, ?_⟩) fun _ _ x => x))
  refine wpAny_bind (m := tryCompare b _ a) (wpAny_tryCompare_declines (hb s₁) h2 (wpAny_mono h₁.2 (fun v s₂ h₂ => ⟨h₂.1, ?_⟩) fun _ _ x => x))
  exact wpAny_bind (wpAny_rule (wpAny_bind (wpAny_of_eq hk (wpAny_pure h₂.2))))
theorem dict_ne_int {d : Value} {i : Int} {t : Tok} {Q : Fin → Shared → Prop} (h : Q (.done (.ret .notImplemented)) s) : wpAny (model prog w) A (Builtin.«dict.__ne__» ⟨[d, .int i t], []⟩) Q E s := by
  obtain ⟨hp, g, dr, tk, os⟩ := s
  unfold Builtin.«dict.__ne__»
  wp_walk
  refine wpAny_of_eq (show isSubtype (.type "int") (.type "dict") = pure false by rw [isSubtype_type]; kernel_rfl) ?_
  simp only [Bool.not_false, if_true]
  wp_walk
  exact h
theorem int_ne_ref {d : Addr} {i : Int} {t : Tok} {o : Obj} {Q : Fin → Shared → Prop} (ho : s.heap.get? d = some o) (hd : ∀ p, o.data ≠ .prim p) (h : Q (.done (.ret .notImplemented)) s) : wpAny (model prog w) A (Builtin.«int.__ne__» ⟨[.int i t, .ref d], []⟩) Q E s := by
  obtain ⟨hp, g, dr, tk, os⟩ := s
  unfold Builtin.«int.__ne__»
  wp_walk
  have e : (match o.data with
    | Data.prim (Value.int i tok) => (pure (some i) : Sem (Option Int))
    | x => pure none) = pure none := by
    split
    · rename_i h1
      exact absurd h1 (hd _)
    · rfl
  refine wpAny_of_eq e ?_
  wp_walk
  exact h
theorem slot_fn_ne : Slot "function" (cmpInfo .NotEq).2.1 "object.__ne__" :=
  .of (owner := "object") (n := "__ne__") (by rw [typeLookup_type, builtinLookup_eq_fast]; kernel_rfl) (by decide +kernel) (by decide +kernel) (by decide +kernel)
    (by first | exact .inl (by decide +kernel) | exact .inr (by decide +kernel)) (by rw [isSubtype_type]; kernel_rfl)
theorem slot_fn_eq' : Slot "function" "__eq__" "object.__eq__" := slot_fn_eq
theorem obj_eq_other {f : Addr} {i : Int} {t : Tok} {Q : Fin → Shared → Prop} (h : Q (.done (.ret .notImplemented)) s) : wpAny (model prog w) A (Builtin.«object.__eq__» ⟨[.ref f, .int i t], []⟩) Q E s := by
  obtain ⟨hp, g, dr, tk, os⟩ := s
  unfold Builtin.«object.__eq__»
  wp_walk
  exact h
theorem fn_ne_int {f : Addr} {i : Int} {t : Tok} {Q : Fin → Shared → Prop} (hu : A.units < cLine) (hT : s.TypeIs (.ref f) "function") (h : Q (.done (.ret .notImplemented)) s) : wpAny (model prog w) A (Builtin.«object.__ne__» ⟨[.ref f, .int i t], []⟩) Q E s := by
  unfold Builtin.«object.__ne__»
  repeat (first
    | with_reducible refine wpAny_cRoomFor hu ?_
    | (refine wpAny_bind (m := callSpecialIfBound? (.ref f) (Str.ofString "__eq__") [.int i t]) (wpAny_callSpecialIfBound?_slot hT slot_fn_eq' (wpAny_call (codeAny_call_builtin slot_fn_eq'.plain PySem.F.cmpEntry_eq (slot_fn_eq'.check _ _ _ _ _ _ _ _ hT (PySem.F.cmpArgs_eq _ _) (obj_eq_other ?_))))))
    | wp_step)
  exact h
theorem ne_dict_int {d : Addr} {i : Int} {t : Tok} {o : Obj} {Q : Value → Shared → Prop} (hu : A.units < cLine) (ho : s.heap.get? d = some o) (hc : o.cls = .type "dict") (hd : ∀ p, o.data ≠ .prim p) (h : Q (.bool true) s) : wpAny (model prog w) A (compareOp .NotEq (.ref d) (.int i t)) Q E s := by
  show wpAny _ A (richCompare .NotEq _ _) Q E s
  have hT : s.TypeIs (.ref d) "dict" := ⟨o, ho, hc⟩
  refine ne_unlike (k := false) hu hT (fun s' => typeIs_int s' i t) (by decide) (by rw [isSubtype_type]; kernel_rfl) F.slot_dict_ne F.slot_int_ne_refl rfl ?_
  refine wpAny_call (codeAny_call_builtin F.slot_dict_ne.plain F.entry_dict_ne (F.slot_dict_ne.check _ _ _ _ _ _ _ _ hT (F.args_dict_ne_2 _ _) (dict_ne_int ⟨rfl, ?_⟩)))
  exact wpAny_call (codeAny_call_builtin F.slot_int_ne_refl.plain F.entry_int_ne (F.slot_int_ne_refl.check _ _ _ _ _ _ _ _ (typeIs_int s i t) (F.args_int_ne_2 _ _) (int_ne_ref ho hd ⟨rfl, h⟩)))
theorem ne_fn_int {f : Addr} {i : Int} {t : Tok} {o : Obj} {Q : Value → Shared → Prop} (hu : A.units + 1 < cLine) (ho : s.heap.get? f = some o) (hc : o.cls = .type "function") (hd : ∀ p, o.data ≠ .prim p) (h : Q (.bool true) s) : wpAny (model prog w) A (compareOp .NotEq (.ref f) (.int i t)) Q E s := by
  show wpAny _ A (richCompare .NotEq _ _) Q E s
  have hT : s.TypeIs (.ref f) "function" := ⟨o, ho, hc⟩
  refine ne_unlike (k := false) (by omega) hT (fun s' => typeIs_int s' i t) (by decide) (by rw [isSubtype_type]; kernel_rfl) slot_fn_ne F.slot_int_ne_refl rfl ?_
  refine wpAny_call (codeAny_call_builtin slot_fn_ne.plain PySem.F.cmpEntry_ne (slot_fn_ne.check _ _ _ _ _ _ _ _ hT (PySem.F.cmpArgs_ne _ _) (fn_ne_int (A := A.in1) hu hT ⟨rfl, ?_⟩)))
  exact wpAny_call (codeAny_call_builtin F.slot_int_ne_refl.plain F.entry_int_ne (F.slot_int_ne_refl.check _ _ _ _ _ _ _ _ (typeIs_int s i t) (F.args_int_ne_2 _ _) (int_ne_ref ho hd ⟨rfl, h⟩)))
end
end AM
end

section
set_option Elab.async false
set_option linter.all false
set_option autoImplicit false
set_option maxRecDepth 100000
set_option maxHeartbeats 4000000
/-! AM 32: != of anything that the laws compare. -/
namespace AM
open PySem PySem.Spec PyProof.Rows L2
structure FnData (κ : Cfg) (fns : List Str) : Prop where
  ok : ∀ x f, x ∈ fns → κ.mg x = some (.ref f) → ∃ o fd, κ.K.lookup f = some o ∧ o.cls = .type "function" ∧ o.data = .func fd
def fdB (x : Str) (K : PySem.W.Frag) : Bool := match K.lookup (He.ga K x) with
  | some ⟨c, _, .func _, _⟩ => decide (c = .type "function")
  | _ => false
theorem fdB_ok {fns : List Str} {κ : Cfg} (h : ∀ x ∈ fns, fdB x κ.K = true ∧ κ.mg x = some (.ref (He.ga κ.K x))) : FnData κ fns := by
  refine ⟨fun x f hx e => ?_⟩
  obtain ⟨h, g⟩ := h x hx
  have e2 : Value.ref f = .ref (He.ga κ.K x) := Option.some.inj (e.symm.trans g)
  cases e2
  unfold fdB at h
  split at h
  · rename_i c od fd sl ho
    exact ⟨_, fd, ho, of_decide_eq_true h, rfl⟩
  · cases h
def neD (fns : List Str) (a b : AV) (M : AH) : Bool := match a, b with
  | .ref i, .int _ => match M[i]? with
    | some (.dct _) => true
    | _ => false
  | .glo x, .int _ => decide (x ∈ fns)
  | _, _ => false
def opNeY (fns ws : List Str) (es : List (Str × (List SV → AH → R AV))) (a b : AV) (M : AH) : R AV := if neD fns a b M = true then .ok (.bl true) M else opNeX fns ws es a b M
section
variable [Tb] {X : Cx} {W : WX} {k : Nat} {fns ws : List Str} {es : List (Str × (List SV → AH → R AV))}
theorem ok_neY (B : Be X W (k + 1)) (G : GloFn (kf X) fns) (D : FnData (kf X) fns) (F : IsF (kf X) ws) (C : CmpF (kf X) ws) (E : KnEqs (kf X) k es) : OpR X (compareOp .NotEq) (rd2 (kf X) W (opNeY fns ws es)) := by
  intro pins s σ0 H x y v u Q I rx ry ⟨ι, vs, M, σ, a, b, hr, ha, hb, o⟩
  unfold opNeY at o
  split at o
  case isFalse => exact ok_neX B G F C E pins s σ0 H x y v u Q I rx ry ⟨ι, vs, M, σ, a, b, hr, ha, hb, o⟩
  rename_i hd
  have fin : EP X pins σ0 Q (.bool true) s := ⟨.bl true, H, I, rfl, Out.fin hr o (by rw [vr_bl])⟩
  unfold neD at hd
  split at hd
  · rename_i i j
    rw [vr_int] at hb
    subst hb
    obtain ⟨t, rfl⟩ := (show ∃ t, u = Value.int j t from ry)
    rw [vr_ref] at ha
    obtain ⟨p, ei, rfl⟩ := ha
    obtain rfl : v = Value.ref p := rx
    split at hd
    case h_2 => cases hd
    rename_i kvs em
    rcases hr.rep.at_ em ei with ⟨gs, h1, _⟩ | ⟨ks, h1, _⟩
    · obtain ⟨_, _, ws', _, ob, es', ep2, h2, h3, h4, _⟩ := I.hok p _ h1
      exact ne_dict_int B.room.units0 h2 h3.1 (fun q e => by rw [h4] at e; cases e) fin
    · obtain ⟨⟨_, _, ob, es', ep2, xs, h2, h3, h4, _⟩, _⟩ := I.hok p _ h1
      exact ne_dict_int B.room.units0 h2 h3.1 (fun q e => by rw [h4] at e; cases e) fin
  · rename_i x' j
    rw [vr_int] at hb
    subst hb
    obtain ⟨t, rfl⟩ := (show ∃ t, u = Value.int j t from ry)
    rw [vr_glo] at ha
    obtain ⟨f, e1, rfl⟩ := ha
    obtain rfl : v = Value.ref f := rx
    obtain ⟨of, fd, l1, l2, l3⟩ := D.ok _ _ (of_decide_eq_true hd) e1
    exact ne_fn_int (Nat.lt_of_le_of_lt (by omega) B.u64) (I.kIn _ _ l1) l2 (fun q e => by rw [l3] at e; cases e) fin
  · cases hd
end
end AM
end

section
set_option Elab.async false
set_option linter.all false
set_option autoImplicit false
set_option maxRecDepth 100000
set_option maxHeartbeats 4000000
/-! AM 33: a, b, c = x, y, z; plain classes and methods, checked. -/
namespace AM
open PySem PySem.Spec PyProof.Rows L2
def parC3 (i j l : Nat) (r : CA) : CS := fun vs M => thenS (r vs M) vs fun as M1 => match as with
  | [a, b, c] => .nx (((vs.set i (some (.val a))).set j (some (.val b))).set l (some (.val c))) M1
  | _ => .bad
section
variable [Tb] {X : Cx} {W : WX} {x : Str} {pos : Pos}
theorem es_par3 {y z : Str} {px py pz pt : Pos} {kt k2 : Nat} {pt2 : Pos} {ea eb ec : Expr} {r : CA} (i j l : Nat) (hc : X.calm = true) (hN : X.N.Nodup) (ha : EvA X W [ea, eb, ec] r) (hi : X.N[i]? = some x := by rfl) (hj : X.N[j]? = some y := by rfl) (hl : X.N[l]? = some z := by rfl) (hij : i ≠ j := by decide) (hil : i ≠ l := by decide) (hjl : j ≠ l := by decide)
    (hx : X.env.scope.names.lookup x = some .local := by rfl) (hy : X.env.scope.names.lookup y = some .local := by rfl) (hz : X.env.scope.names.lookup z = some .local := by rfl)
    (hw : swappedStores [.Tuple [.Name x px, .Name y py, .Name z pz] kt pt] (.Tuple [ea, eb, ec] k2 pt2) X.env = pure (some [x, y, z]) := by rfl)
    (hs : swapsWithSole [.Tuple [.Name x px, .Name y py, .Name z pz] kt pt] (.Tuple [ea, eb, ec] k2 pt2) pos.line X.env = pure false := by rfl) : EvS X W (.Assign [.Tuple [.Name x px, .Name y py, .Name z pz] kt pt] (.Tuple [ea, eb, ec] k2 pt2) pos) (parC3 i j l r) :=
  PS.imp (ps_par3 hc hN hi hj hl hij hil hjl hx hy hz ha hw hs) fun D σ H ⟨ι, vs, M, hr, o⟩ => OutS.run hr o fun ι1 as M1 ws H1 h1 h2 h3 h4 h5 => by
    split at h5
    · obtain ⟨v, ws', rfl, g1, g2⟩ := h4.cons_inv
      obtain ⟨w, ws2, rfl, g3, g4⟩ := g2.cons_inv
      obtain ⟨u, ws3, rfl, g5, g6⟩ := g4.cons_inv
      obtain rfl := g6.nil_inv
      exact ⟨v, w, u, rfl, OutS.fin (((h3.slot g1).slot g3).slot g5) h5⟩
    · exact h5.elim
end
def clB (x : Str) (K : PySem.W.Frag) : Bool := (He.Fa.cls x).ok K
theorem clB_ok {x : Str} {K : PySem.W.Frag} (h : clB x K = true) : Cls K (He.ga K x) := He.cls_ok h
def meB (x m : Str) (K : PySem.W.Frag) : Bool := He.eqO (PySem.W.findIn K (.ref (He.ga K x)) m) (some (some (.ref (He.ma K (He.ga K x) m)))) && (PySem.W.isFn K (.ref (He.ma K (He.ga K x) m)) && PySem.W.keepIn K (.ref (He.ma K (He.ga K x) m)))
theorem meB_ok {x m : Str} {K : PySem.W.Frag} (h : meB x m K = true) : Meth K (He.ga K x) m (He.ma K (He.ga K x) m) := by
  obtain ⟨h1, h⟩ := He.ba h
  obtain ⟨h2, h3⟩ := He.ba h
  exact ⟨He.eqO_ok h1, h2, h3⟩
end AM
end

section
set_option Elab.async false
set_option linter.all false
set_option autoImplicit false
set_option maxRecDepth 100000
set_option maxHeartbeats 4000000
/-! AM 34: in, not in a tuple of whole numbers. -/
namespace AM
open PySem PySem.Spec PyProof.Rows L2
def intsT (a : AV) : Option (List Int) := match a with
  | .tup xs => intsOf xs
  | _ => none
def opInY (neg : Bool) (a b : AV) (M : AH) : R AV := match a, intsT b with
  | .int i, some ns => .ok (.bl (if neg then !(ns.any (· == i)) else ns.any (· == i))) M
  | a, _ => opIn neg a b M
section
variable [Tb] {X : Cx} {W : WX}
theorem ok_InY (hu : X.A.units + 65 < cLine) : OpR X (compareOp .In) (rd2 (kf X) W (opInY false)) := by
  intro pins s σ0 H x y v u Q I rx ry ⟨ι, vs, M, σ, a, b, hr, ha, hb, o⟩
  unfold opInY at o
  split at o
  · rename_i i ns hn
    unfold intsT at hn
    split at hn
    case h_2 => cases hn
    rename_i xs
    rw [vr_int] at ha
    subst ha
    obtain ⟨t, rfl⟩ := (show ∃ t, v = Value.int i t from rx)
    rw [vr_tup] at hb
    obtain ⟨p, ws, rfl, hp, hw⟩ := hb
    obtain rfl : u = Value.ref p := ry
    obtain ⟨its, r1, p1, _⟩ := I.tuple hp
    rw [VRs.ints hn hw] at r1
    exact in_tuple_ints p1 (intsAre_of r1) ⟨.bl (ns.any (· == i)), H, I, rfl, Out.fin hr o (by rw [vr_bl]; rfl)⟩
  · exact ok_In hu pins s σ0 H x y v u Q I rx ry ⟨ι, vs, M, σ, _, _, hr, ha, hb, o⟩
theorem ok_NotInY (hu : X.A.units + 65 < cLine) : OpR X (compareOp .NotIn) (rd2 (kf X) W (opInY true)) := by
  intro pins s σ0 H x y v u Q I rx ry ⟨ι, vs, M, σ, a, b, hr, ha, hb, o⟩
  unfold opInY at o
  split at o
  · rename_i i ns hn
    unfold intsT at hn
    split at hn
    case h_2 => cases hn
    rename_i xs
    rw [vr_int] at ha
    subst ha
    obtain ⟨t, rfl⟩ := (show ∃ t, v = Value.int i t from rx)
    rw [vr_tup] at hb
    obtain ⟨p, ws, rfl, hp, hw⟩ := hb
    obtain rfl : u = Value.ref p := ry
    obtain ⟨its, r1, p1, _⟩ := I.tuple hp
    rw [VRs.ints hn hw] at r1
    exact notin_tuple_ints p1 (intsAre_of r1) ⟨.bl (!(ns.any (· == i))), H, I, rfl, Out.fin hr o (by rw [vr_bl]; rfl)⟩
  · exact ok_NotIn hu pins s σ0 H x y v u Q I rx ry ⟨ι, vs, M, σ, _, _, hr, ha, hb, o⟩
end
end AM
end

section
set_option Elab.async false
set_option linter.all false
set_option autoImplicit false
set_option maxRecDepth 100000
set_option maxHeartbeats 4000000
/-! AM 35: a lambda handed on within a list comprehension's element. -/
namespace AM
open PySem PySem.Spec L2

/-- of the block as it is entered, its cells known -/
abbrev BlkD (X : Cx) (scope : Scope) (P : Cx → Prop) : Prop := ∀ (s : Shared) (H : Hp) (fp : List Addr), X.Ok → P (X.blk s H scope (compEnvC scope (cellsFrom (s.heap.objs.size + 1) scope.names (cloFrom X.env.cells scope.names [])) s.heap.objs.size X.env) fp)
section
variable {X : Cx}
theorem lcB_core {pins : List (Addr × Obj)} {s : Shared} {σ : L2.St} {H : Hp} {Q : VK} {elt tg iter : Expr} {ifs : List Expr} {scope : Scope} {own : List (Str × Nat)} {pos pos' : Pos} {wi : TI} {g : TG} {tt : TT} {te : TE} {Qf : Value → Shared → Prop} {use : Option (Value → Sem Unit)}
    (hc : X.calm = true) (hN : X.N.Nodup) (I : Inv X pins σ H s) (hi : PI X tg iter wi) (ok : BlkOk X.N X.env.scope scope own)
    (hg : ∀ (s : Shared) (H : Hp) (C : Addr) (cl : List (Str × Addr)) (fp : List Addr), PG (X.blk s H scope (compEnvC scope cl C X.env) fp) tg g) (ht : ∀ (s : Shared) (H : Hp) (C : Addr) (cl : List (Str × Addr)) (fp : List Addr), PTs (X.blk s H scope (compEnvC scope cl C X.env) fp) ifs tt)
    (he : BlkD X scope fun Y => PE Y elt te)
    (hs : ∀ x, foldedSetIterable iter X.env x = pure x)
    (h : tLc wi g tt te (own.map (·.2)) σ H Q)
    (hRR : ∀ D C s' m H', Inv X pins σ H' s' → Q (.ref D) H' → s'.heap.Ns C m → FpOk X pins H' C → compPost (model X.prog X.w) X.A X.xe use Qf (.ref D) C (.ok .next) s') :
    wpAny (model X.prog X.w) X.A (comprehension (.ListComp elt [⟨tg, iter, ifs, 0⟩] scope pos) scope X.env pos' (newList []) false (eval iter X.env) use) Qf X.xe s := by
  have hfree : ∀ y ∈ scope.names, y.2 = .free → ∃ c, X.env.cells.lookup y.1 = some c := fun y hy e => by
    rcases ok.free y hy e with k | k
    · exact I.ok.has _ (.inl k)
    · exact I.ok.has _ (.inr k)
  refine wpAny_comprehension_free (use := use) rfl hs (closure_ok hfree) ok.kind (fun y hy e => by rw [ok.uniq y hy, e])
    (thn (hi.run pins s σ H _ I h) fun xv s1 hx => thn hx fun itv s2 h2 => ?_)
  obtain ⟨it, fp, tn, J, H2, e, I2, T, st2, f2, q⟩ := h2
  subst e
  refine wpAny_newObj_type (newEnv_comp ?_) (by show 0 ≤ sizeLine; decide)
  generalize hD : s2.heap.objs.size = D
  have hDn : H2 D = none := I2.hok.fresh (Nat.le_of_eq hD)
  obtain ⟨W, ⟨m0, w0⟩, turn⟩ := q D hDn
  generalize hs3 : ({ s2 with heap := s2.heap.push { cls := .type "list", data := .seq ([] : List Value).toArray } } : Shared) = s3
  have I3 : Inv X pins σ (upd H2 D (.lst [])) s3 := by
    rw [← hs3]
    refine I2.laid (t' := s2.toks) (fun b o e => Heap.get?_push_of_some _ e) (Nat.le_of_eq hD) ⟨Nat.zero_le _, [], 0, .nil, ?_⟩
    rw [← hD]
    exact Heap.get?_push_size _ rfl
  have h3 : s3.heap = s2.heap.push { cls := .type "list", data := .seq ([] : List Value).toArray } := by rw [← hs3]
  have f3 : ∀ b ∈ fp, FpOk X pins (upd H2 D (.lst [])) b ∧ b < s3.heap.objs.size := fun b hb => by
    have hlt : b < s2.heap.objs.size := by
      obtain ⟨o, e, _⟩ := T.obj _ _ st2 b hb
      exact Heap.lt_size e
    refine ⟨⟨?_, (f2 b hb).2⟩, by rw [h3, Heap.size_push]; exact Nat.lt_succ_of_lt hlt⟩
    rw [upd_ne (by rw [← hD]; exact Nat.ne_of_lt hlt)]
    exact (f2 b hb).1
  have st3 : tn 0 s3.heap := T.keep _ _ _ st2 fun b _ o e => by rw [h3]; exact Heap.get?_push_of_some _ e
  have I4 := block_start I3 ok hN f3
  have pg := hg s3 (upd H2 D (.lst [])) s3.heap.objs.size (cellsFrom (s3.heap.objs.size + 1) scope.names (cloFrom X.env.cells scope.names [])) fp
  have pt := ht s3 (upd H2 D (.lst [])) s3.heap.objs.size (cellsFrom (s3.heap.objs.size + 1) scope.names (cloFrom X.env.cells scope.names [])) fp
  have pe := he s3 (upd H2 D (.lst [])) fp I.ok
  show codeAny _ _ (.compStart (.ListComp elt [⟨tg, iter, ifs, 0⟩] scope pos) 0 (.ref it) (.ref D) (compEnvC scope (cellsFrom (s3.heap.objs.size + 1) scope.names (cloFrom X.env.cells scope.names [])) s3.heap.objs.size X.env)) (compPost (model X.prog X.w) X.A X.xe use Qf (.ref D) s3.heap.objs.size) { s3 with heap := pushCells (s3.heap.push { cls := .type "dict", data := .dict #[] }) scope.names }
  have nfp : ∀ b ∈ fp, (upd H2 D (.lst [])) b = none := fun b hb => (f3 b hb).1.1
  generalize hce : compEnvC scope (cellsFrom (s3.heap.objs.size + 1) scope.names (cloFrom X.env.cells scope.names [])) s3.heap.objs.size X.env = ce at I4 pg pt pe ⊢
  have cL : ce.locals = s3.heap.objs.size := by subst hce; rfl
  generalize hH3 : upd H2 D (.lst []) = H3 at I3 I4 pg pt pe w0 nfp f3
  generalize hs4 : ({ s3 with heap := pushCells (s3.heap.push { cls := .type "dict", data := .dict #[] }) scope.names } : Shared) = s4 at I4 ⊢
  have st4 : tn 0 s4.heap := T.keep _ _ _ st3 fun b _ o e => by rw [← hs4]; exact pushCells_keeps _ _ _ _ (Heap.get?_push_of_some _ e)
  have stat : ∀ {σ' : L2.St} {H' : Hp} {s' : Shared}, Inv (X.blk s3 H3 scope ce fp) [] σ' H' s' → (∀ b ∈ fp, H' b = none) → ∀ b ∈ fp, FpOk (X.blk s3 H3 scope ce fp) [] H' b := fun {σ' H' s'} I' hn b hb =>
    ⟨hn b hb, (I'.ok.exf b hb).1, I'.ok.exfs b hb, .inl hb, fun x c e => (I'.ok.exf b hb).2 x c e, fun p hp => absurd (show p ∈ ([] : List (Addr × Obj)) ++ [] from hp) (by simp)⟩
  refine codeAny_compStart_list ?loop (T.self X.A 0 _ _ _ st4 ?loop)
  refine compLoop_any (fun n s' => ∃ i H', Inv (X.blk s3 H3 scope ce fp) [] (wipe σ (own.map (·.2))) H' s' ∧ tn i s'.heap ∧ (∀ b ∈ fp, H' b = none) ∧ W i n H') ?_ m0 ⟨0, H3, I4, st4, nfp, w0⟩
  rintro n s5 ⟨i, H5, I5, st5, n5, w5⟩
  rcases turn i n H5 w5 with ⟨stop, qq⟩ | ⟨go, Nx, hNx, step⟩
  · refine thnF (T.done (X.blk s3 H3 scope ce fp) rfl rfl rfl hc i [] s5 _ H5 (fun _ _ => False) I5 (stat I5 n5) st5 stop) fun r s6 ⟨hr, I6⟩ => ?_
    subst hr
    have I7 : Inv X pins σ H5 s6 := I3.call' (ch := fp) I6.os I6.base I6.hok I6.bare fun b hb => ⟨(f3 b hb).1.2.2.2.1, (f3 b hb).1.2.1, (f3 b hb).1.2.2.2.2.1, (f3 b hb).1.2.2.2.2.2⟩
    have nC : H5 s3.heap.objs.size = none := by
      have z : H5 ce.locals = none := I6.free
      rw [cL] at z
      exact z
    obtain ⟨m, hn, _⟩ := I6.loc
    have hn : s6.heap.Ns ce.locals m := hn
    rw [cL] at hn
    exact hRR D s3.heap.objs.size s6 m H5 I7 qq hn (I3.fpOk (Nat.le_refl _) nC)
  · refine thnF (T.item (X.blk s3 H3 scope ce fp) rfl rfl rfl hc i [] s5 _ H5 (fun _ _ => False) I5 (stat I5 n5) st5 go) fun r s6 ⟨u, hr, h6⟩ => ?_
    subst hr
    refine thnF h6 fun _ s7 ⟨x, H7, I7, r7, y7, st7, n7⟩ => ?_
    have I7' := I7.pinned (stat I7 n7) (T.obj _ _ st7)
    refine thnF (pg.run _ s7 _ H7 x u _ I7' r7 (step x H7 y7)) fun _ s8 ⟨σ8, H8, I8, hw8, q8⟩ => ?_
    refine thnF (pt.run _ s8 σ8 H8 _ I8 q8) fun b s9 ⟨H9, I9, q9⟩ => ?_
    have fin : ∀ {s' : Shared} {H' : Hp}, Inv (X.blk s3 H3 scope ce fp) ([] ++ pinsAt fp s7.heap) σ8 H' s' → Nx H' → ∃ m, m < n ∧ ∃ i H', Inv (X.blk s3 H3 scope ce fp) [] (wipe σ (own.map (·.2))) H' s' ∧ tn i s'.heap ∧ (∀ b ∈ fp, H' b = none) ∧ W i m H' := fun {s' H'} I' nx => by
      obtain ⟨m', hm, w'⟩ := hNx H' nx
      have pin' : ∀ b ∈ fp, ∀ o, s7.heap.get? b = some o → s'.heap.get? b = some o ∧ H' b = none := fun b hb o e =>
        let z := I'.pin (b, o) (List.mem_append_right _ (List.mem_append_right _ (mem_pinsAt hb e)))
        ⟨z.1, z.2.1⟩
      have hl : (wipe σ (own.map (·.2))).length = σ8.length := by rw [← hw8, wipe_length]
      refine ⟨m', hm, i + 1, H', (I'.unpinned (pins := [])).weak hl (fun j v e => ?_), T.keep _ _ _ st7 fun b hb o e => (pin' b hb o e).1, fun b hb => ?_, w'⟩
      · rw [← hw8] at e
        exact (wipe_some e).1
      · obtain ⟨o, e, _⟩ := T.obj _ _ st7 b hb
        exact (pin' b hb o e).2
    cases b with
    | false =>
      simp only [Bool.false_eq_true, if_false] at q9 ⊢
      exact fin I9 q9
    | true =>
      simp only [if_true] at q9 ⊢
      refine thnF (pe.run _ s9 σ8 H9 _ I9 q9) fun z s10 ⟨yv, H10, I10, r10, acc, hD10, hz10, nx⟩ => ?_
      exact app_ok (X := X.blk s3 H3 scope ce fp) I10 hD10 hz10 r10 fun s11 I11 => fin I11 nx
end
section
variable [Tb] {X : Cx} {W : WX} {k : Nat}
theorem Bd.blk {own : List (Str × Nat)} {scope : Scope} (B : Bd X W k) (okX : X.Ok) (ok : BlkOk X.N X.env.scope scope own) {s : Shared} {H : Hp} {fp : List Addr} :
    Bd (X.blk s H scope (compEnvC scope (cellsFrom (s.heap.objs.size + 1) scope.names (cloFrom X.env.cells scope.names [])) s.heap.objs.size X.env) fp) WF k := by
  refine ⟨B.toBe.blk, PassesOwn.never, fun okB x c e => ?_⟩
  rcases cellsFrom_ge (show (x, c) ∈ cellsFrom (s.heap.objs.size + 1) scope.names (cloFrom X.env.cells scope.names []) from PySem.mem_of_lookup e) with h | hg
  · rcases cloFrom_mem h with h | ⟨h1, h2⟩
    · cases h
    · obtain ⟨c1, hc⟩ : ∃ c, X.env.cells.lookup x = some c := by
        rcases ok.free _ h1 rfl with z | z
        · exact okX.has _ (.inl z)
        · exact okX.has _ (.inr z)
      have hcc : c = c1 := by rw [h2, hc]; rfl
      rw [hcc]
      exact B.cb okX x c1 hc
  · refine ⟨Heap.get?_none_of_le (Nat.le_trans okB.bsz (Nat.le_of_succ_le hg)), fun hm => ?_⟩
    have hm : c ∈ frs X.stack := hm
    obtain ⟨_, o, ho, _⟩ := okB.funs.mem hm
    exact absurd (Nat.lt_of_lt_of_le (Heap.lt_size ho) (Nat.le_of_succ_le hg)) (Nat.lt_irrefl _)
theorem Be.toS {m k : Nat} (B : Be X W m) (h : m = k + 1) : Be X W (k + 1) := h ▸ B
theorem LmOk.blk (L : LmOk X) {scope : Scope} {s : Shared} {H : Hp} {C : Addr} {cl : List (Str × Addr)} {fp : List Addr} : LmOk (X.blk s H scope (compEnvC scope cl C X.env) fp) := L
variable {ci : CI} {g : CG} {t : CT} {ce : CE}
theorem ev_lcB {k : Nat} {elt tg iter : Expr} {ifs : List Expr} {scope : Scope} {ownp : List (Str × Nat)} {pos : Pos} (B : Be X W k) (hi : EvI X W tg iter ci) (ok : BlkOk X.N X.env.scope scope ownp)
    (hg : BlkC X scope fun Y => EvTg Y (ownp.map (·.2)) tg g) (ht : BlkC X scope fun Y => PTs Y ifs (rdT (kf X) WF t))
    (he : BlkD X scope fun Y => EvE Y WF elt ce) (hs : ∀ x, foldedSetIterable iter X.env x = pure x := by intro _; rfl) :
    EvE X W (.ListComp elt [⟨tg, iter, ifs, 0⟩] scope pos) (lcC (ownp.map (·.2)) ci g t ce) := by
  refine ⟨fun pins s σ H Q I ⟨ι, vs, M, hr, o⟩ => ?_⟩
  have h := lc_read (fun _ _ _ h => h) hr o fun _ _ _ _ h q => rd.imp h q
  rw [eval_ListComp]
  refine lcB_core B.calm B.nd I hi ok hg ht he hs h fun D C s' m H' I' q hn f => ⟨m, hn, fun h'' sb => ?_⟩
  obtain ⟨f0, f1, f2, f3, f4, f5⟩ := f
  exact ⟨.ref D, H', I'.turned (t' := s'.toks) (fun b o hb e => (sb.2 b hb).trans e) f0 f1 f3 f4 f5, rfl, q⟩
end
end AM
end

section
set_option Elab.async false
set_option linter.all false
set_option autoImplicit false
set_option maxRecDepth 100000
set_option maxHeartbeats 4000000
/-! law_k01_webs_made: what its defs compute (printed by gen.py). -/
namespace K01
open PySem AM
def fns : List Str := ["_law_draw"]
def ws : List Str := ["Web"]
def em : Str → Str → Option Bool := emT [("BadPlaces", "BadPlaces", true), ("BadSteps", "BadPlaces", false), ("BadPlaces", "BadSteps", false), ("BadSteps", "BadSteps", true)]
def c_is_list : CS := (retC (argsC (isA2 fns ws) (consA (varC 0) (consA (argsC tupA (consA (conC (.ty "list")) (consA (conC (.ty "tuple")) nilA))) nilA))))
def f_is_list : List SV → AH → R AV := fnRun 1 c_is_list
def c_is_whole : CS := (retC (andC (argsC (isA2 fns ws) (consA (varC 0) (consA (conC (.ty "int")) nilA))) (notC (argsC (isA2 fns ws) (consA (varC 0) (consA (conC (.ty "bool")) nilA))))))
def f_is_whole : List SV → AH → R AV := fnRun 1 c_is_whole
def c_is_positive : CS := (retC (andC (callC 1 f_is_whole (consA (varC 0) nilA)) (bin2 opGe (varC 0) (conC (.int 1)))))
def f_is_positive : List SV → AH → R AV := fnRun 1 c_is_positive
def c_is_pair : CS := (retC (andC (callC 1 f_is_list (consA (varC 0) nilA)) (andC (bin2 opEq (argsC lenA (consA (varC 0) nilA)) (conC (.int 2))) (andC (callC 1 f_is_whole (consA (bin2 opIx (varC 0) (conC (.int 0))) nilA)) (callC 1 f_is_whole (consA (bin2 opIx (varC 0) (conC (.int 1))) nilA))))))
def f_is_pair : List SV → AH → R AV := fnRun 1 c_is_pair
def c_as_tuples (n : Nat) (rc : List SV → AH → R AV) : CS := (retC (ifC (truC (callC 1 f_is_list (consA (varC 0) nilA))) (argsC tupleA (consA (lcC [1] (valI (varC 0)) (nameG 1) yesT (callC 1 rc (consA (varC 1) nilA))) nilA)) (varC 0)))
def f_as_tuples : Nat → List SV → AH → R AV
  | 0 => fun _ _ => .bad
  | n + 1 => fnRun 2 (c_as_tuples n (f_as_tuples n))
def c_first_bad : CS := (seqC (ifS (notT (truC (callC 1 f_is_list (consA (varC 0) nilA))))
  (retC (conC (.int 0)))
  skipC)
  (seqC (asgC (fun _ M => newD M) (nameG 2))
  (seqC (forC (argsI enumA (consA (varC 0) nilA)) (tupG 2 (consG (nameG 3) (consG (nameG 4) nilG)))
  (seqC (ifS (orT (notT (truC (cloC (32) 1 (consA (varC 4) nilA)))) (cmpT (opIn false) (callC 1 (f_as_tuples 30) (consA (varC 4) nilA)) (varC 2)))
  (retC (varC 3))
  skipC)
  (asgC (conC (.bl true)) (subG (varC 2) (callC 1 (f_as_tuples 30) (consA (varC 4) nilA))))))
  (retC (conC .non)))))
def f_first_bad : List SV → AH → R AV := fnRun 5 c_first_bad
def c_is_place : CS := (retC (andC (callC 1 f_is_whole (consA (varC 0) nilA)) (chnC opLe opLt (conC (.int 0)) (varC 0) (varC 1))))
def f_is_place : List SV → AH → R AV := fnRun 2 c_is_place
def c_is_step : CS := (seqC (ifS (orT (notT (truC (callC 1 f_is_list (consA (varC 0) nilA)))) (orT (cmpT opNe (argsC lenA (consA (varC 0) nilA)) (conC (.int 5))) (orT (notT (truC (callC 2 f_is_place (consA (bin2 opIx (varC 0) (conC (.int 0))) (consA (varC 1) nilA))))) (notT (truC (callC 2 f_is_place (consA (bin2 opIx (varC 0) (conC (.int 1))) (consA (varC 1) nilA))))))))
  (retC (conC (.bl false)))
  skipC)
  (retC (andC (callC 1 f_is_pair (consA (bin2 opIx (varC 0) (conC (.int 2))) nilA)) (andC (callC 1 f_is_positive (consA (bin2 opIx (varC 0) (conC (.int 3))) nilA)) (callC 1 f_is_whole (consA (bin2 opIx (varC 0) (conC (.int 4))) nilA))))))
def f_is_step : List SV → AH → R AV := fnRun 2 c_is_step
def c_Web_init : CS := (seqC (ifS (notT (truC (callC 1 f_is_positive (consA (varC 1) nilA))))
  (raiseC "BadPlaces" "places" (varC 1))
  skipC)
  (seqC (asgC (callX 2 f_first_bad (consX (varC 2) (consL 4 1 [1] (callC 2 f_is_step (consA (varC 0) (consA (varC 1) nilA))) nilX))) (nameG 3))
  (seqC (ifS (cmpT opIsN (varC 3) (conC .non))
  (raiseC "BadSteps" "index" (varC 3))
  skipC)
  (seqC (fldS "Web" "own_places" (varC 0) (varC 1))
  (fldS "Web" "own_steps" (varC 0) (argsC sortedA (consA (lcC [4] (valI (varC 2)) (nameG 4) yesT (callC 1 (f_as_tuples 30) (consA (varC 4) nilA))) nilA)))))))
def f_Web_init : List SV → AH → R AV := fnRun 5 c_Web_init
def c_Web_places : CS := (retC (un1 (fldA "Web" "own_places") (varC 0)))
def f_Web_places : List SV → AH → R AV := fnRun 1 c_Web_places
def c_Web_steps : CS := (retC (argsC listA (consA (un1 (fldA "Web" "own_steps") (varC 0)) nilA)))
def f_Web_steps : List SV → AH → R AV := fnRun 1 c_Web_steps
def c_Web_eq : CS := (seqC (ifS (notT (truC (argsC (isA2 fns ws) (consA (varC 1) (consA (conC (.glo "Web")) nilA)))))
  (retC (conC (.bl false)))
  skipC)
  (retC (andC (bin2 opEq (un1 (fldA "Web" "own_places") (varC 0)) (un1 (fldA "Web" "own_places") (varC 1))) (bin2 opEq (un1 (fldA "Web" "own_steps") (varC 0)) (un1 (fldA "Web" "own_steps") (varC 1))))))
def f_Web_eq : List SV → AH → R AV := fnRun 2 c_Web_eq
def c_law_stream : CS := (retC (argsC lstA (consA (listScr 0) (consA (conC (.int 0)) (consA (conC (.int 0)) (consA (conC (.int 17)) nilA))))))
def f_law_stream : List SV → AH → R AV := fnRun 1 c_law_stream
def c_law_draw : CS := (seqC (asgC (bin2 opAdd (bin2 opIx (varC 0) (conC (.int 2))) (conC (.int 1))) (subG (varC 0) (conC (.int 2))))
  (seqC (whileC (andT (cmpT opEq (bin2 opIx (varC 0) (conC (.int 1))) (conC (.int 0))) (cmpT opNe (bin2 opIx (varC 0) (conC (.int 0))) (argsC lstA nilA)))
  (seqC (asgC (argsC absA (consA (methK (onT "list" mPop1) (bin2 opIx (varC 0) (conC (.int 0))) (consA (conC (.int 0)) nilA)) nilA)) (nameG 2))
  (seqC (asgC (bin2 opMod (argsC intA (consA (bin2 opAdd (bin2 opAdd (bin2 opMul (bin2 opIx (varC 0) (conC (.int 3))) (conC (.int 8191))) (varC 2)) (conC (.int 3))) nilA)) (conC (.int 2147483647))) (subG (varC 0) (conC (.int 3))))
  (asgC (ifC (cmpT opGe (varC 2) (bin2 opPow (conC (.int 10)) (conC (.int 18)))) (varC 2) (conC (.int 0))) (subG (varC 0) (conC (.int 1)))))))
  (seqC (ifS (cmpT opGt (bin2 opIx (varC 0) (conC (.int 1))) (conC (.int 0)))
  (seqC (asgC (bin2 opMod (argsC intA (consA (bin2 opIx (varC 0) (conC (.int 1))) nilA)) (varC 1)) (nameG 3))
  (seqC (asgC (bin2 opDiv (bin2 opIx (varC 0) (conC (.int 1))) (varC 1)) (subG (varC 0) (conC (.int 1))))
  (retC (varC 3))))
  skipC)
  (seqC (asgC (bin2 opMod (argsC intA (consA (bin2 opPow (bin2 opAdd (bin2 opAdd (bin2 opIx (varC 0) (conC (.int 3))) (bin2 opMul (conC (.int 7919)) (bin2 opIx (varC 0) (conC (.int 2))))) (conC (.int 104729))) (conC (.int 5))) nilA)) (conC (.int 2147483629))) (nameG 4))
  (retC (bin2 opMod (bin2 opMod (argsC intA (consA (bin2 opPow (bin2 opAdd (bin2 opAdd (bin2 opMul (varC 4) (conC (.int 48271))) (bin2 opMul (conC (.int 30011)) (bin2 opIx (varC 0) (conC (.int 2))))) (conC (.int 29))) (conC (.int 3))) nilA)) (conC (.int 1000000007))) (varC 1)))))))
def f_law_draw : List SV → AH → R AV := fnRun 5 c_law_draw
def c_law_pick : CS := (retC (bin2 opIx (varC 1) (callC 2 f_law_draw (consA (varC 0) (consA (argsC lenA (consA (varC 1) nilA)) nilA)))))
def f_law_pick : List SV → AH → R AV := fnRun 2 c_law_pick
def c_law_mixed : CS := (seqC (parC 2 3 (consA (argsC listA (consA (varC 1) nilA)) (consA (argsC lstA nilA) nilA)))
  (seqC (forC (argsI rangeA1 (consA (argsC lenA (consA (varC 2) nilA)) nilA)) (nameG 4)
  (dropC (methK (onT "list" mAppend) (varC 3) (consA (methK (onT "list" mPop1) (varC 2) (consA (callC 2 f_law_draw (consA (varC 0) (consA (argsC lenA (consA (varC 2) nilA)) nilA))) nilA)) nilA))))
  (retC (varC 3))))
def f_law_mixed : List SV → AH → R AV := fnRun 5 c_law_mixed
def c_law_same (n : Nat) (rc : List SV → AH → R AV) : CS := (seqC (ifS (truC (argsC (isA2 fns ws) (consA (varC 1) (consA (argsC tupA (consA (conC (.ty "list")) (consA (conC (.ty "tuple")) nilA))) nilA))))
  (seqC (ifS (orT (cmpT (opNeY fns ws []) (argsC (isA2 fns ws) (consA (varC 0) (consA (conC (.ty "list")) nilA))) (argsC (isA2 fns ws) (consA (varC 1) (consA (conC (.ty "list")) nilA)))) (cmpT (opNeY fns ws []) (argsC (isA2 fns ws) (consA (varC 0) (consA (conC (.ty "tuple")) nilA))) (argsC (isA2 fns ws) (consA (varC 1) (consA (conC (.ty "tuple")) nilA)))))
  (retC (conC (.bl false)))
  skipC)
  (retC (andC (bin2 (opEqX fns ws []) (argsC lenA (consA (varC 0) nilA)) (argsC lenA (consA (varC 1) nilA))) (argsC allA (consA (lcC [2, 3] (argsI zipA (consA (varC 0) (consA (varC 1) nilA))) (tupG 2 (consG (nameG 2) (consG (nameG 3) nilG))) yesT (callC 2 rc (consA (varC 2) (consA (varC 3) nilA)))) nilA)))))
  skipC)
  (seqC (ifS (truC (argsC (isA2 fns ws) (consA (varC 1) (consA (conC (.ty "dict")) nilA))))
  (retC (andC (argsC (isA2 fns ws) (consA (varC 0) (consA (conC (.ty "dict")) nilA))) (callC 2 rc (consA (un1 itemsL (varC 0)) (consA (un1 itemsL (varC 1)) nilA)))))
  skipC)
  (seqC (ifS (orT (truC (argsC (isA2 fns ws) (consA (varC 1) (consA (conC (.ty "bool")) nilA)))) (truC (argsC (isA2 fns ws) (consA (varC 0) (consA (conC (.ty "bool")) nilA)))))
  (retC (andC (argsC (isA2 fns ws) (consA (varC 1) (consA (conC (.ty "bool")) nilA))) (andC (argsC (isA2 fns ws) (consA (varC 0) (consA (conC (.ty "bool")) nilA))) (bin2 (opEqX fns ws []) (varC 0) (varC 1)))))
  skipC)
  (retC (andC (notC (argsC (isA2 fns ws) (consA (varC 0) (consA (argsC tupA (consA (conC (.ty "list")) (consA (conC (.ty "tuple")) (consA (conC (.ty "dict")) nilA)))) nilA)))) (bin2 (opEqX fns ws []) (varC 0) (varC 1)))))))
def f_law_same : Nat → List SV → AH → R AV
  | 0 => fun _ _ => .bad
  | n + 1 => fnRun 4 (c_law_same n (f_law_same n))
def c_law_loose (n : Nat) (rc : List SV → AH → R AV) : CS := (seqC (ifS (truC (argsC (isA2 fns ws) (consA (varC 1) (consA (argsC tupA (consA (conC (.ty "list")) (consA (conC (.ty "tuple")) nilA))) nilA))))
  (seqC (asgC (lcC [3] (valI (varC 1)) (nameG 3) yesT (callC 2 rc (consA (varC 0) (consA (varC 3) nilA)))) (nameG 2))
  (retC (ifC (cmpT opEq (callC 2 f_law_draw (consA (varC 0) (consA (conC (.int 2)) nilA))) (conC (.int 0))) (varC 2) (argsC tupleA (consA (varC 2) nilA)))))
  skipC)
  (retC (varC 1)))
def f_law_loose : Nat → List SV → AH → R AV
  | 0 => fun _ _ => .bad
  | n + 1 => fnRun 4 (c_law_loose n (f_law_loose n))
def c_law_amounts : CS := (seqC (ifS (cmpT opEq (varC 1) (conC (.int 0)))
  (retC (argsC tupA (consA (callC 2 f_law_draw (consA (varC 0) (consA (conC (.int 5)) nilA))) (consA (callC 2 f_law_draw (consA (varC 0) (consA (conC (.int 5)) nilA))) nilA))))
  skipC)
  (seqC (ifS (cmpT opEq (varC 1) (conC (.int 1)))
  (retC (argsC tupA (consA (bin2 opSub (callC 2 f_law_draw (consA (varC 0) (consA (conC (.int 9)) nilA))) (conC (.int 4))) (consA (bin2 opSub (callC 2 f_law_draw (consA (varC 0) (consA (conC (.int 9)) nilA))) (conC (.int 4))) nilA))))
  skipC)
  (seqC (ifS (cmpT opEq (varC 1) (conC (.int 2)))
  (retC (argsC tupA (consA (bin2 opSub (callC 2 f_law_draw (consA (varC 0) (consA (conC (.int 19)) nilA))) (conC (.int 9))) (consA (bin2 opSub (callC 2 f_law_draw (consA (varC 0) (consA (conC (.int 19)) nilA))) (conC (.int 9))) nilA))))
  skipC)
  (retC (argsC tupA (consA (callC 2 f_law_pick (consA (varC 0) (consA (argsC lstA (consA (conC (.int 0)) (consA (conC (.int 0)) (consA (conC (.int 0)) (consA (conC (.int 1)) (consA (conC (.int 3)) nilA)))))) nilA))) (consA (callC 2 f_law_pick (consA (varC 0) (consA (argsC lstA (consA (conC (.int 0)) (consA (conC (.int 0)) (consA (conC (.int 0)) (consA (conC (.int 1)) (consA (conC (.int 2)) nilA)))))) nilA))) nilA)))))))
def f_law_amounts : List SV → AH → R AV := fnRun 2 c_law_amounts
def c_law_step : CS := (seqC (asgC (bin2 opAdd (conC (.int 1)) (callC 2 f_law_draw (consA (varC 0) (consA (callC 2 f_law_pick (consA (varC 0) (consA (argsC lstA (consA (conC (.int 1)) (consA (conC (.int 2)) (consA (conC (.int 6)) nilA)))) nilA))) nilA)))) (nameG 4))
  (seqC (asgC (callC 2 f_law_pick (consA (varC 0) (consA (argsC lstA (consA (conC (.int 0)) (consA (conC (.int 0)) (consA (conC (.int 1)) (consA (un1 opNeg (conC (.int 1))) (consA (conC (.int 2)) (consA (un1 opNeg (conC (.int 3))) (consA (conC (.int 5)) (consA (un1 opNeg (conC (.int 9))) (consA (conC (.int 9)) nilA)))))))))) nilA))) (nameG 5))
  (retC (argsC tupA (consA (varC 1) (consA (varC 2) (consA (callC 2 f_law_amounts (consA (varC 0) (consA (varC 3) nilA))) (consA (varC 4) (consA (varC 5) nilA)))))))))
def f_law_step : List SV → AH → R AV := fnRun 6 c_law_step
def c_law_web : CS := (seqC (asgC (argsC tupA (consA (bin2 opAdd (conC (.int 1)) (callC 2 f_law_draw (consA (varC 0) (consA (varC 1) nilA)))) (consA (callC 2 f_law_draw (consA (varC 0) (consA (conC (.int 4)) nilA))) (consA (argsC lstA nilA) (consA (argsC lstA nilA) nilA))))) (tupG 4 (consG (nameG 3) (consG (nameG 4) (consG (nameG 5) (consG (nameG 6) nilG))))))
  (seqC (ifS (cmpT opGt (callC 2 f_law_draw (consA (varC 0) (consA (conC (.int 5)) nilA))) (conC (.int 0)))
  (asgC (sliceC (callC 2 f_law_mixed (consA (varC 0) (consA (argsC listRg (consA (varC 3) nilA)) nilA))) noO (someO (bin2 opAdd (conC (.int 1)) (callC 2 f_law_draw (consA (varC 0) (consA (varC 3) nilA)))))) (nameG 6))
  skipC)
  (seqC (forC (argsI enumA (consA (varC 6) nilA)) (tupG 2 (consG (nameG 7) (consG (nameG 8) nilG)))
  (dropC (methK (onT "list" mAppend) (varC 5) (consA (callC 4 f_law_step (consA (varC 0) (consA (bin2 opIx (varC 6) (bin2 opSub (varC 7) (conC (.int 1)))) (consA (varC 8) (consA (varC 4) nilA))))) nilA))))
  (seqC (forC (argsI rangeA1 (consA (callC 2 f_law_draw (consA (varC 0) (consA (bin2 opAdd (bin2 opSub (varC 2) (argsC lenA (consA (varC 5) nilA))) (conC (.int 1))) nilA))) nilA)) (nameG 9)
  (seqC (asgC (callC 4 f_law_step (consA (varC 0) (consA (callC 2 f_law_draw (consA (varC 0) (consA (varC 3) nilA))) (consA (callC 2 f_law_draw (consA (varC 0) (consA (varC 3) nilA))) (consA (varC 4) nilA))))) (nameG 10))
  (dropC (methK (onT "list" mExtend) (varC 5) (consA (ifC (cmpT (opIn true) (varC 10) (varC 5)) (argsC lstA (consA (varC 10) nilA)) (argsC lstA nilA)) nilA)))))
  (retC (argsC tupA (consA (varC 3) (consA (callC 2 f_law_mixed (consA (varC 0) (consA (varC 5) nilA))) nilA))))))))
def f_law_web : List SV → AH → R AV := fnRun 11 c_law_web
def c_law_tried : CS := (tryC em (retC (argsC tupA (consA (conC (.str "told")) (consA (cloC (36) 0 nilA) nilA)))) (("BadPlaces", some 1, (retC (argsC tupA (consA (conC (.str "places")) (consA (exfC "BadPlaces" 1 "places") nilA))))) :: (("BadSteps", some 1, (retC (argsC tupA (consA (conC (.str "steps")) (consA (exfC "BadSteps" 1 "index") nilA))))) :: [])))
def f_law_tried : List SV → AH → R AV := fnRun 2 c_law_tried
def c_law_odd_steps : CS := (seqC (asgC (varC 1) (tupG 5 (consG (nameG 2) (consG (nameG 3) (consG (nameG 4) (consG (nameG 5) (consG (nameG 6) nilG)))))))
  (seqC (asgC (argsC lstA (consA (conC .non) (consA (conC (.int 5)) (consA (conC (.str "abcde")) (consA (argsC tupA nilA) (consA (fun _ M => newD M) (consA (sliceC (varC 1) noO (someO (conC (.int 4)))) (consA (bin2 opAdd (varC 1) (argsC tupA (consA (conC (.int 0)) nilA))) (consA (conC (.bl true)) (consA (conC (.glo "_law_draw")) (consA (argsC tupA (consA (varC 0) (consA (varC 3) (consA (varC 4) (consA (varC 5) (consA (varC 6) nilA)))))) nilA))))))))))) (nameG 7))
  (seqC (dropC (methK (onT "list" mExtend) (varC 7) (consA (lcC [8] (valI (argsC lstA (consA (un1 opNeg (conC (.int 1))) (consA (conC .non) (consA (conC (.bl true)) (consA (conC (.str "0")) (consA (argsC tupA (consA (conC (.int 0)) nilA)) (consA (conC (.glo "_law_draw")) nilA)))))))) (nameG 8) yesT (argsC tupA (consA (varC 8) (consA (varC 3) (consA (varC 4) (consA (varC 5) (consA (varC 6) nilA))))))) nilA)))
  (seqC (dropC (methK (onT "list" mExtend) (varC 7) (consA (lcC [8] (valI (argsC lstA (consA (un1 opNeg (conC (.int 1))) (consA (varC 0) (consA (conC .non) (consA (conC (.bl false)) (consA (conC (.str "0")) (consA (argsC lstA (consA (conC (.int 0)) nilA)) nilA)))))))) (nameG 8) yesT (argsC tupA (consA (varC 2) (consA (varC 8) (consA (varC 4) (consA (varC 5) (consA (varC 6) nilA))))))) nilA)))
  (seqC (forC (valI (argsC lstA (consA (conC .non) (consA (conC (.int 5)) (consA (argsC tupA (consA (conC (.int 1)) nilA)) (consA (argsC tupA (consA (conC (.int 1)) (consA (conC (.int 2)) (consA (conC (.int 3)) nilA)))) (consA (argsC tupA (consA (conC (.bl true)) (consA (conC (.int 1)) nilA))) (consA (argsC tupA (consA (conC (.int 1)) (consA (conC .non) nilA))) (consA (conC (.str "ab")) (consA (fun _ M => newD M) nilA)))))))))) (nameG 8)
  (dropC (methK (onT "list" mAppend) (varC 7) (consA (argsC tupA (consA (varC 2) (consA (varC 3) (consA (varC 8) (consA (varC 5) (consA (varC 6) nilA)))))) nilA))))
  (seqC (dropC (methK (onT "list" mExtend) (varC 7) (consA (lcC [8] (valI (argsC lstA (consA (conC (.int 0)) (consA (un1 opNeg (conC (.int 1))) (consA (conC .non) (consA (conC (.bl true)) (consA (conC (.str "1")) (consA (argsC tupA (consA (conC (.int 1)) nilA)) nilA)))))))) (nameG 8) yesT (argsC tupA (consA (varC 2) (consA (varC 3) (consA (varC 4) (consA (varC 8) (consA (varC 6) nilA))))))) nilA)))
  (retC (bin2 opAdd (varC 7) (lcC [8] (valI (argsC lstA (consA (conC .non) (consA (conC (.bl true)) (consA (conC (.str "0")) (consA (argsC tupA (consA (conC (.int 0)) nilA)) (consA (argsC lstA nilA) (consA (conC (.glo "_law_draw")) nilA)))))))) (nameG 8) yesT (argsC tupA (consA (varC 2) (consA (varC 3) (consA (varC 4) (consA (varC 5) (consA (varC 8) nilA)))))))))))))))
def f_law_odd_steps : List SV → AH → R AV := fnRun 9 c_law_odd_steps
def c_law_made_right : CS := (seqC (asgC (lcC [4] (valI (varC 2)) (nameG 4) yesT (callC 2 (f_law_loose 30) (consA (varC 0) (consA (varC 4) nilA)))) (nameG 3))
  (seqC (asgC (makeC "Web" 3 f_Web_init (consA (varC 1) (consA (callC 2 f_law_pick (consA (varC 0) (consA (argsC lstA (consA (varC 3) (consA (argsC tupleA (consA (varC 3) nilA)) nilA))) nilA))) nilA))) (nameG 5))
  (seqC (dropC (methK (onT "list" mAppend) (varC 3) (consA (conC .non) nilA)))
  (seqC (asgC (argsC lstA (consA (varC 1) (consA (argsC sortedA (consA (varC 2) nilA)) nilA))) (nameG 6))
  (seqC (ifS (notT (truC (callC 2 (f_law_same 30) (consA (argsC lstA (consA (methO "Web" "places" 1 f_Web_places (varC 5) nilA) (consA (methO "Web" "steps" 1 f_Web_steps (varC 5) nilA) nilA))) (consA (varC 6) nilA)))))
  (retC (conC (.bl false)))
  skipC)
  (seqC (dropC (methK (onT "list" mAppend) (methO "Web" "steps" 1 f_Web_steps (varC 5) nilA) (consA (conC (.str "late")) nilA)))
  (seqC (asgC (makeK "Web" 3 f_Web_init 2 [0, 2, 1] (consA (callC 2 f_law_mixed (consA (varC 0) (consA (varC 2) nilA))) (consA (varC 1) nilA))) (nameG 7))
  (seqC (ifS (orT (notT (truC (callC 2 (f_law_same 30) (consA (argsC lstA (consA (methO "Web" "places" 1 f_Web_places (varC 5) nilA) (consA (methO "Web" "steps" 1 f_Web_steps (varC 5) nilA) nilA))) (consA (varC 6) nilA))))) (notT (cmpT (opEqX fns ws [("Web", f_Web_eq)]) (varC 5) (varC 7))))
  (retC (conC (.bl false)))
  skipC)
  (seqC (asgC (lcC [4] (valI (varC 2)) (nameG 4) yesT (bin2 opAdd (bin2 opAdd (argsC listA (consA (sliceC (varC 4) noO (someO (conC (.int 2)))) nilA)) (argsC lstA (consA (argsC listA (consA (bin2 opIx (varC 4) (conC (.int 2))) nilA)) nilA))) (argsC listA (consA (sliceC (varC 4) (someO (conC (.int 3))) noO) nilA)))) (nameG 8))
  (seqC (asgC (makeC "Web" 3 f_Web_init (consA (varC 1) (consA (varC 8) nilA))) (nameG 7))
  (seqC (forC (valI (varC 8)) (nameG 4)
  (seqC (dropC (methK (onT "list" mAppend) (bin2 opIx (varC 4) (conC (.int 2))) (consA (conC (.int 9)) nilA)))
  (dropC (methK (onT "list" mClear) (varC 4) nilA))))
  (retC (andC (callC 2 (f_law_same 30) (consA (methO "Web" "steps" 1 f_Web_steps (varC 7) nilA) (consA (bin2 opIx (varC 6) (conC (.int 1))) nilA))) (bin2 (opEqX fns ws [("Web", f_Web_eq)]) (varC 7) (varC 5)))))))))))))))
def f_law_made_right : List SV → AH → R AV := fnRun 9 c_law_made_right
def c_law_near : CS := (retC (ifC (cmpT opGt (varC 0) (un1 opNeg (conC (.int 9)))) (bin2 opSub (varC 0) (conC (.int 1))) (bin2 opAdd (varC 0) (conC (.int 1)))))
def f_law_near : List SV → AH → R AV := fnRun 1 c_law_near
def c_law_unlike_right : CS := (seqC (asgC (makeC "Web" 3 f_Web_init (consA (varC 1) (consA (varC 2) nilA))) (nameG 3))
  (seqC (asgC (bin2 opAdd (argsC lstA (consA (conC .non) (consA (varC 2) (consA (varC 1) (consA (argsC tupA (consA (varC 1) (consA (varC 2) nilA))) (consA (conC (.str "web")) (consA (fun _ M => newD M) nilA))))))) (ifC (cmpT opLt (varC 1) (conC (.int 6))) (argsC lstA (consA (makeC "Web" 3 f_Web_init (consA (bin2 opAdd (varC 1) (conC (.int 1))) (consA (varC 2) nilA))) nilA)) (argsC lstA nilA))) (nameG 4))
  (seqC (ifS (cmpT (opNeY fns ws [("Web", f_Web_eq)]) (varC 2) (argsC lstA nilA))
  (seqC (asgC (callC 2 f_law_pick (consA (varC 0) (consA (varC 2) nilA))) (tupG 5 (consG (nameG 5) (consG (nameG 6) (consG (nameG 7) (consG (nameG 8) (consG (nameG 9) nilG)))))))
  (seqC (asgC (lcC [11] (valI (varC 2)) (nameG 11) (cmpT (opNeY fns ws [("Web", f_Web_eq)]) (varC 11) (argsC tupA (consA (varC 5) (consA (varC 6) (consA (varC 7) (consA (varC 8) (consA (varC 9) nilA))))))) (varC 11)) (nameG 10))
  (seqC (dropC (methK (onT "list" mAppend) (varC 4) (consA (makeC "Web" 3 f_Web_init (consA (varC 1) (consA (varC 10) nilA))) nilA)))
  (seqC (asgC (argsC lstA (consA (argsC tupA (consA (varC 5) (consA (varC 6) (consA (argsC tupA (consA (callC 1 f_law_near (consA (bin2 opIx (varC 7) (conC (.int 0))) nilA)) (consA (bin2 opIx (varC 7) (conC (.int 1))) nilA))) (consA (varC 8) (consA (varC 9) nilA)))))) nilA)) (nameG 12))
  (seqC (dropC (methK (onT "list" mAppend) (varC 12) (consA (argsC tupA (consA (varC 5) (consA (varC 6) (consA (argsC tupA (consA (bin2 opIx (varC 7) (conC (.int 0))) (consA (callC 1 f_law_near (consA (bin2 opIx (varC 7) (conC (.int 1))) nilA)) nilA))) (consA (varC 8) (consA (varC 9) nilA)))))) nilA)))
  (seqC (dropC (methK (onT "list" mAppend) (varC 12) (consA (argsC tupA (consA (varC 5) (consA (varC 6) (consA (varC 7) (consA (ifC (cmpT opGt (varC 8) (conC (.int 1))) (bin2 opSub (varC 8) (conC (.int 1))) (conC (.int 2))) (consA (varC 9) nilA)))))) nilA)))
  (seqC (dropC (methK (onT "list" mAppend) (varC 12) (consA (argsC tupA (consA (varC 5) (consA (varC 6) (consA (varC 7) (consA (varC 8) (consA (callC 1 f_law_near (consA (varC 9) nilA)) nilA)))))) nilA)))
  (dropC (methK (onT "list" mExtend) (varC 4) (consA (lcC [11] (valI (varC 12)) (nameG 11) (cmpT (opIn true) (varC 11) (varC 10)) (makeC "Web" 3 f_Web_init (consA (varC 1) (consA (bin2 opAdd (varC 10) (argsC lstA (consA (varC 11) nilA))) nilA)))) nilA))))))))))
  skipC)
  (retC (andC (notC (argsC anyA (consA (lcC [6] (valI (varC 4)) (nameG 6) yesT (bin2 (opEqX fns ws [("Web", f_Web_eq)]) (varC 3) (varC 6))) nilA))) (argsC allA (consA (lcC [6] (valI (varC 4)) (nameG 6) yesT (bin2 (opNeY fns ws [("Web", f_Web_eq)]) (varC 3) (varC 6))) nilA)))))))
def f_law_unlike_right : List SV → AH → R AV := fnRun 13 c_law_unlike_right
def c_law_refused_right : CS := (seqC (asgC (callC 2 f_law_pick (consA (varC 0) (consA (bin2 opAdd (varC 2) (argsC lstA (consA (argsC tupA (consA (conC (.int 0)) (consA (conC (.int 0)) (consA (argsC tupA (consA (conC (.int 1)) (consA (conC (.int 1)) nilA))) (consA (conC (.int 1)) (consA (conC (.int 0)) nilA)))))) nilA))) nilA))) (nameG 3))
  (seqC (asgC (callC 2 f_law_draw (consA (varC 0) (consA (bin2 opAdd (argsC lenA (consA (varC 2) nilA)) (conC (.int 1))) nilA))) (nameG 4))
  (seqC (forC (valI (sliceC (callC 2 f_law_mixed (consA (varC 0) (consA (callC 2 f_law_odd_steps (consA (varC 1) (consA (varC 3) nilA))) nilA))) noO (someO (conC (.int 12))))) (nameG 5)
  (seqC (asgC (bin2 opAdd (bin2 opAdd (sliceC (varC 2) noO (someO (varC 4))) (argsC lstA (consA (varC 5) (consA (conC .non) nilA)))) (sliceC (varC 2) (someO (varC 4)) noO)) (nameG 6))
  (ifS (cmpT (opNeY fns ws []) (callX 1 f_law_tried (consL 35 0 [1, 6] (makeC "Web" 3 f_Web_init (consA (varC 0) (consA (varC 1) nilA))) nilX)) (argsC tupA (consA (conC (.str "steps")) (consA (varC 4) nilA))))
  (retC (conC (.bl false)))
  skipC)))
  (seqC (ifS (andT (cmpT (opNeY fns ws []) (varC 2) (argsC lstA nilA)) (cmpT (opNeY fns ws []) (callX 1 f_law_tried (consL 35 0 [1, 2] (makeC "Web" 3 f_Web_init (consA (varC 0) (consA (bin2 opAdd (varC 1) (argsC lstA (consA (argsC listA (consA (bin2 opIx (varC 1) (conC (.int 0))) nilA)) (consA (conC .non) nilA)))) nilA))) nilX)) (argsC tupA (consA (conC (.str "steps")) (consA (argsC lenA (consA (varC 2) nilA)) nilA)))))
  (retC (conC (.bl false)))
  skipC)
  (seqC (forC (valI (argsC lstA (consA (conC .non) (consA (conC (.int 0)) (consA (un1 opNeg (conC (.int 1))) (consA (conC (.bl true)) (consA (conC (.str "1")) (consA (argsC tupA (consA (conC (.int 1)) nilA)) (consA (argsC lstA nilA) (consA (fun _ M => newD M) (consA (conC (.glo "_law_draw")) nilA))))))))))) (nameG 5)
  (ifS (notT (truC (callC 2 (f_law_same 30) (consA (callX 1 f_law_tried (consL 35 0 [5] (makeC "Web" 3 f_Web_init (consA (varC 0) (consA (argsC lstA (consA (conC .non) nilA)) nilA))) nilX)) (consA (argsC tupA (consA (conC (.str "places")) (consA (varC 5) nilA))) nilA)))))
  (retC (conC (.bl false)))
  skipC))
  (seqC (asgC (argsC lstA (consA (conC (.int 1)) nilA)) (nameG 7))
  (seqC (asgC (callX 1 f_law_tried (consL 35 0 [7, 2] (makeC "Web" 3 f_Web_init (consA (varC 0) (consA (varC 1) nilA))) nilX)) (nameG 8))
  (seqC (dropC (methK (onT "list" mAppend) (varC 7) (consA (conC (.str "late")) nilA)))
  (seqC (ifS (notT (truC (callC 2 (f_law_same 30) (consA (varC 8) (consA (argsC tupA (consA (conC (.str "places")) (consA (argsC lstA (consA (conC (.int 1)) (consA (conC (.str "late")) nilA))) nilA))) nilA)))))
  (retC (conC (.bl false)))
  skipC)
  (retC (argsC allA (consA (lcC [5] (valI (argsC lstA (consA (conC .non) (consA (conC (.int 5)) (consA (conC (.str "ab")) (consA (fun _ M => newD M) (consA (conC (.bl true)) (consA (conC (.glo "_law_draw")) nilA)))))))) (nameG 5) yesT (bin2 (opEqX fns ws []) (callX 1 f_law_tried (consL 35 0 [1, 5] (makeC "Web" 3 f_Web_init (consA (varC 0) (consA (varC 1) nilA))) nilX)) (argsC tupA (consA (conC (.str "steps")) (consA (conC (.int 0)) nilA))))) nilA))))))))))))
def f_law_refused_right : List SV → AH → R AV := fnRun 9 c_law_refused_right
def c_law : CS := (seqC (asgC (callX 1 f_law_stream (consV 0 nilX)) (nameG 1))
  (seqC (forC (argsI rangeA1 (consA (conC (.int 4)) nilA)) (nameG 2)
  (seqC (asgC (callC 3 f_law_web (consA (varC 1) (consA (conC (.int 6)) (consA (conC (.int 14)) nilA)))) (tupG 2 (consG (nameG 3) (consG (nameG 4) nilG))))
  (seqC (ifS (orT (notT (truC (callC 3 f_law_made_right (consA (varC 1) (consA (varC 3) (consA (varC 4) nilA)))))) (notT (truC (callC 3 f_law_unlike_right (consA (varC 1) (consA (varC 3) (consA (varC 4) nilA)))))))
  (retC (conC (.bl false)))
  skipC)
  (ifS (notT (truC (callC 3 f_law_refused_right (consA (varC 1) (consA (varC 3) (consA (varC 4) nilA))))))
  (retC (conC (.bl false)))
  skipC))))
  (retC (andC (callC 2 (f_law_same 30) (consA (methO "Web" "steps" 1 f_Web_steps (makeC "Web" 3 f_Web_init (consA (conC (.int 1)) (consA (argsC lstA nilA) nilA))) nilA) (consA (argsC lstA nilA) nilA))) (bin2 (opEqX fns ws [("Web", f_Web_eq)]) (makeC "Web" 3 f_Web_init (consA (conC (.int 1)) (consA (argsC tupA nilA) nilA))) (makeC "Web" 3 f_Web_init (consA (conC (.int 1)) (consA (argsC lstA nilA) nilA))))))))
def f_law : List SV → AH → R AV := fnRun 5 c_law
end K01
end

section
set_option Elab.async false
set_option linter.all false
set_option autoImplicit false
set_option maxRecDepth 100000
set_option maxHeartbeats 4000000
/-! law_k01_webs_made: its defs compute that (printed by gen.py). -/
namespace K01
open PySem PySem.Spec L2 AM
def top (i : Nat) : Stmt := PySem.Challenge.pw_anyaround_k01_webs_made.main.body.getD i (.Pass ⟨0, 0, 0, 0⟩)
abbrev s_is_list : Stmt := (top 5)
abbrev s_is_whole : Stmt := (top 6)
abbrev s_is_positive : Stmt := (top 7)
abbrev s_is_pair : Stmt := (top 8)
abbrev s_as_tuples : Stmt := (top 9)
abbrev s_first_bad : Stmt := (top 10)
abbrev s_is_place : Stmt := (top 12)
abbrev s_is_step : Stmt := (top 13)
abbrev s_Web_init : Stmt := (clsAt (top 14) 0)
abbrev s_Web_places : Stmt := (clsAt (top 14) 1)
abbrev s_Web_steps : Stmt := (clsAt (top 14) 2)
abbrev s_Web_eq : Stmt := (clsAt (top 14) 3)
abbrev s_law_stream : Stmt := (top 16)
abbrev s_law_draw : Stmt := (top 17)
abbrev s_law_pick : Stmt := (top 18)
abbrev s_law_mixed : Stmt := (top 19)
abbrev s_law_same : Stmt := (top 20)
abbrev s_law_loose : Stmt := (top 21)
abbrev s_law_amounts : Stmt := (top 22)
abbrev s_law_step : Stmt := (top 23)
abbrev s_law_web : Stmt := (top 24)
abbrev s_law_tried : Stmt := (top 25)
abbrev s_law_odd_steps : Stmt := (top 26)
abbrev s_law_made_right : Stmt := (top 27)
abbrev s_law_near : Stmt := (top 28)
abbrev s_law_unlike_right : Stmt := (top 29)
abbrev s_law_refused_right : Stmt := (top 30)
abbrev s_law : Stmt := (top 31)
abbrev s_BadPlaces : Stmt := (clsAt (top 2) 0)
abbrev s_BadSteps : Stmt := (clsAt (top 3) 0)
/-- what the head tells -/
structure Fc [Tb] (P : Program) (w : World) (K : PySem.W.Frag) (mg : Str → Option Value) (base : Heap) (cs : List (Addr × Addr)) : Prop where
  n_abs : mg "abs" = none
  n_all : mg "all" = none
  n_any : mg "any" = none
  n_bool : mg "bool" = none
  n_dict : mg "dict" = none
  n_enumerate : mg "enumerate" = none
  n_int : mg "int" = none
  n_isinstance : mg "isinstance" = none
  n_len : mg "len" = none
  n_list : mg "list" = none
  n_range : mg "range" = none
  n_sorted : mg "sorted" = none
  n_tuple : mg "tuple" = none
  n_zip : mg "zip" = none
  g_AroundError : mg "AroundError" = some (.ref (He.ga K "AroundError"))
  g_BadPlaces : mg "BadPlaces" = some (.ref (He.ga K "BadPlaces"))
  g_BadSteps : mg "BadSteps" = some (.ref (He.ga K "BadSteps"))
  g_Web : mg "Web" = some (.ref (He.ga K "Web"))
  g_law_amounts : mg "_law_amounts" = some (.ref (He.ga K "_law_amounts"))
  g_law_draw : mg "_law_draw" = some (.ref (He.ga K "_law_draw"))
  g_law_loose : mg "_law_loose" = some (.ref (He.ga K "_law_loose"))
  g_law_made_right : mg "_law_made_right" = some (.ref (He.ga K "_law_made_right"))
  g_law_mixed : mg "_law_mixed" = some (.ref (He.ga K "_law_mixed"))
  g_law_near : mg "_law_near" = some (.ref (He.ga K "_law_near"))
  g_law_odd_steps : mg "_law_odd_steps" = some (.ref (He.ga K "_law_odd_steps"))
  g_law_pick : mg "_law_pick" = some (.ref (He.ga K "_law_pick"))
  g_law_refused_right : mg "_law_refused_right" = some (.ref (He.ga K "_law_refused_right"))
  g_law_same : mg "_law_same" = some (.ref (He.ga K "_law_same"))
  g_law_step : mg "_law_step" = some (.ref (He.ga K "_law_step"))
  g_law_stream : mg "_law_stream" = some (.ref (He.ga K "_law_stream"))
  g_law_tried : mg "_law_tried" = some (.ref (He.ga K "_law_tried"))
  g_law_unlike_right : mg "_law_unlike_right" = some (.ref (He.ga K "_law_unlike_right"))
  g_law_web : mg "_law_web" = some (.ref (He.ga K "_law_web"))
  g_as_tuples : mg "as_tuples" = some (.ref (He.ga K "as_tuples"))
  g_first_bad : mg "first_bad" = some (.ref (He.ga K "first_bad"))
  g_is_list : mg "is_list" = some (.ref (He.ga K "is_list"))
  g_is_pair : mg "is_pair" = some (.ref (He.ga K "is_pair"))
  g_is_place : mg "is_place" = some (.ref (He.ga K "is_place"))
  g_is_positive : mg "is_positive" = some (.ref (He.ga K "is_positive"))
  g_is_step : mg "is_step" = some (.ref (He.ga K "is_step"))
  g_is_whole : mg "is_whole" = some (.ref (He.ga K "is_whole"))
  g_law : mg "law" = some (.ref (He.ga K "law"))
  d_is_list : ∃ fd, FunD K "is_list" "is_list" (defArgs s_is_list) (defBody s_is_list) (defScope s_is_list) [] [] (He.ga K "is_list") fd
  d_is_whole : ∃ fd, FunD K "is_whole" "is_whole" (defArgs s_is_whole) (defBody s_is_whole) (defScope s_is_whole) [] [] (He.ga K "is_whole") fd
  d_is_positive : ∃ fd, FunD K "is_positive" "is_positive" (defArgs s_is_positive) (defBody s_is_positive) (defScope s_is_positive) [] [] (He.ga K "is_positive") fd
  d_is_pair : ∃ fd, FunD K "is_pair" "is_pair" (defArgs s_is_pair) (defBody s_is_pair) (defScope s_is_pair) [] [] (He.ga K "is_pair") fd
  d_as_tuples : ∃ fd, FunD K "as_tuples" "as_tuples" (defArgs s_as_tuples) (defBody s_as_tuples) (defScope s_as_tuples) [] [] (He.ga K "as_tuples") fd
  d_first_bad : ∃ fd, FunD K "first_bad" "first_bad" (defArgs s_first_bad) (defBody s_first_bad) (defScope s_first_bad) [] [] (He.ga K "first_bad") fd
  d_is_place : ∃ fd, FunD K "is_place" "is_place" (defArgs s_is_place) (defBody s_is_place) (defScope s_is_place) [] [] (He.ga K "is_place") fd
  d_is_step : ∃ fd, FunD K "is_step" "is_step" (defArgs s_is_step) (defBody s_is_step) (defScope s_is_step) [] [] (He.ga K "is_step") fd
  d_Web_init : ∃ fd, FunD K "__init__" "Web.__init__" (defArgs s_Web_init) (defBody s_Web_init) (defScope s_Web_init) [] [] (He.ma K (He.ga K "Web") "__init__") fd
  d_Web_places : ∃ fd, FunD K "places" "Web.places" (defArgs s_Web_places) (defBody s_Web_places) (defScope s_Web_places) [] [] (He.ma K (He.ga K "Web") "places") fd
  d_Web_steps : ∃ fd, FunD K "steps" "Web.steps" (defArgs s_Web_steps) (defBody s_Web_steps) (defScope s_Web_steps) [] [] (He.ma K (He.ga K "Web") "steps") fd
  d_Web_eq : ∃ fd, FunD K "__eq__" "Web.__eq__" (defArgs s_Web_eq) (defBody s_Web_eq) (defScope s_Web_eq) [] [] (He.ma K (He.ga K "Web") "__eq__") fd
  d_law_stream : ∃ fd, FunD K "_law_stream" "_law_stream" (defArgs s_law_stream) (defBody s_law_stream) (defScope s_law_stream) [] [] (He.ga K "_law_stream") fd
  d_law_draw : ∃ fd, FunD K "_law_draw" "_law_draw" (defArgs s_law_draw) (defBody s_law_draw) (defScope s_law_draw) [] [] (He.ga K "_law_draw") fd
  d_law_pick : ∃ fd, FunD K "_law_pick" "_law_pick" (defArgs s_law_pick) (defBody s_law_pick) (defScope s_law_pick) [] [] (He.ga K "_law_pick") fd
  d_law_mixed : ∃ fd, FunD K "_law_mixed" "_law_mixed" (defArgs s_law_mixed) (defBody s_law_mixed) (defScope s_law_mixed) [] [] (He.ga K "_law_mixed") fd
  d_law_same : ∃ fd, FunD K "_law_same" "_law_same" (defArgs s_law_same) (defBody s_law_same) (defScope s_law_same) [] [] (He.ga K "_law_same") fd
  d_law_loose : ∃ fd, FunD K "_law_loose" "_law_loose" (defArgs s_law_loose) (defBody s_law_loose) (defScope s_law_loose) [] [] (He.ga K "_law_loose") fd
  d_law_amounts : ∃ fd, FunD K "_law_amounts" "_law_amounts" (defArgs s_law_amounts) (defBody s_law_amounts) (defScope s_law_amounts) [] [] (He.ga K "_law_amounts") fd
  d_law_step : ∃ fd, FunD K "_law_step" "_law_step" (defArgs s_law_step) (defBody s_law_step) (defScope s_law_step) [] [] (He.ga K "_law_step") fd
  d_law_web : ∃ fd, FunD K "_law_web" "_law_web" (defArgs s_law_web) (defBody s_law_web) (defScope s_law_web) [] [] (He.ga K "_law_web") fd
  d_law_tried : ∃ fd, FunD K "_law_tried" "_law_tried" (defArgs s_law_tried) (defBody s_law_tried) (defScope s_law_tried) [] [] (He.ga K "_law_tried") fd
  d_law_odd_steps : ∃ fd, FunD K "_law_odd_steps" "_law_odd_steps" (defArgs s_law_odd_steps) (defBody s_law_odd_steps) (defScope s_law_odd_steps) [] [] (He.ga K "_law_odd_steps") fd
  d_law_made_right : ∃ fd, FunD K "_law_made_right" "_law_made_right" (defArgs s_law_made_right) (defBody s_law_made_right) (defScope s_law_made_right) [] [] (He.ga K "_law_made_right") fd
  d_law_near : ∃ fd, FunD K "_law_near" "_law_near" (defArgs s_law_near) (defBody s_law_near) (defScope s_law_near) [] [] (He.ga K "_law_near") fd
  d_law_unlike_right : ∃ fd, FunD K "_law_unlike_right" "_law_unlike_right" (defArgs s_law_unlike_right) (defBody s_law_unlike_right) (defScope s_law_unlike_right) [] [] (He.ga K "_law_unlike_right") fd
  d_law_refused_right : ∃ fd, FunD K "_law_refused_right" "_law_refused_right" (defArgs s_law_refused_right) (defBody s_law_refused_right) (defScope s_law_refused_right) [] [] (He.ga K "_law_refused_right") fd
  d_law : ∃ fd, FunD K "law" "law" (defArgs s_law) (defBody s_law) (defScope s_law) [] [] (He.ga K "law") fd
  x_BadPlaces : ∃ fd, FunD K "__init__" "BadPlaces.__init__" (defArgs s_BadPlaces) (defBody s_BadPlaces) (defScope s_BadPlaces) [] [] (He.ma K (He.ga K "BadPlaces") "__init__") fd
  xo_BadPlaces : OexC K (He.ga K "BadPlaces") ∧ PySem.W.findIn K (.ref (He.ga K "BadPlaces")) "__init__" = some (some (.ref (He.ma K (He.ga K "BadPlaces") "__init__"))) ∧ PySem.W.typeIn K (.ref (He.ma K (He.ga K "BadPlaces") "__init__")) = some (.type "function") ∧ PySem.W.findIn K (.ref (He.ga K "BadPlaces")) "places" = some none
  x_BadSteps : ∃ fd, FunD K "__init__" "BadSteps.__init__" (defArgs s_BadSteps) (defBody s_BadSteps) (defScope s_BadSteps) [] [] (He.ma K (He.ga K "BadSteps") "__init__") fd
  xo_BadSteps : OexC K (He.ga K "BadSteps") ∧ PySem.W.findIn K (.ref (He.ga K "BadSteps")) "__init__" = some (some (.ref (He.ma K (He.ga K "BadSteps") "__init__"))) ∧ PySem.W.typeIn K (.ref (He.ma K (He.ga K "BadSteps") "__init__")) = some (.type "function") ∧ PySem.W.findIn K (.ref (He.ga K "BadSteps")) "index" = some none
  xf_BadPlaces_places : ExFld ⟨K, mg, P, w, base, Tb.T⟩ "BadPlaces" "places"
  xf_BadSteps_index : ExFld ⟨K, mg, P, w, base, Tb.T⟩ "BadSteps" "index"
  cf_Web_own_places : ClsFld ⟨K, mg, P, w, base, Tb.T⟩ "Web" "own_places"
  cf_Web_own_steps : ClsFld ⟨K, mg, P, w, base, Tb.T⟩ "Web" "own_steps"
  gfn : GloFn ⟨K, mg, P, w, base, Tb.T⟩ fns
  isf : IsF ⟨K, mg, P, w, base, Tb.T⟩ ws
  cmf : CmpF ⟨K, mg, P, w, base, Tb.T⟩ ws
  fnd : FnData ⟨K, mg, P, w, base, Tb.T⟩ fns
  co_Web : Cls K (He.ga K "Web")
  me_Web_places : Meth K (He.ga K "Web") "places" (He.ma K (He.ga K "Web") "places")
  me_Web_steps : Meth K (He.ga K "Web") "steps" (He.ma K (He.ga K "Web") "steps")
  em : EmOk ⟨K, mg, P, w, base, Tb.T⟩ em
  mk_Web : Mk K (He.ga K "Web") (He.ma K (He.ga K "Web") "__init__")
  eq_Web : PySem.W.findIn K (.ref (He.ga K "Web")) "__eq__" = some (some (.ref (He.ma K (He.ga K "Web") "__eq__"))) ∧ PySem.W.isFn K (.ref (He.ma K (He.ga K "Web") "__eq__")) = true
  l_Web_init : ∀ fd, FunD K "__init__" "Web.__init__" (defArgs s_Web_init) (defBody s_Web_init) (defScope s_Web_init) [] [] (He.ma K (He.ga K "Web") "__init__") fd → ∃ c P, cs[0]? = some (c, P) ∧ fd.code = .ref c ∧ LamX.TabB base mg c P
  l_law_refused_right : ∀ fd, FunD K "_law_refused_right" "_law_refused_right" (defArgs s_law_refused_right) (defBody s_law_refused_right) (defScope s_law_refused_right) [] [] (He.ga K "_law_refused_right") fd → ∃ c P, cs[1]? = some (c, P) ∧ fd.code = .ref c ∧ LamX.TabB base mg c P
  nd : (cs.map (·.2)).Nodup
def qs : List Str := ["Web.__init__.<locals>." ++ "<lambda>", "_law_refused_right.<locals>." ++ "<lambda>"]
-- tT : Tb.T = tabT cs qs
section
variable [Tb] {P : Program} {w : World} {K : PySem.W.Frag} {mg : Str → Option Value} {base : Heap} {cs : List (Addr × Addr)}
theorem xc_BadPlaces (F : Fc P w K mg base cs) : ExCls ⟨K, mg, P, w, base, Tb.T⟩ 1 "BadPlaces" "places" := by
  obtain ⟨fd, D⟩ := F.x_BadPlaces
  obtain ⟨h1, h2, h3, h4⟩ := F.xo_BadPlaces
  exact ⟨_, _, fd, _, F.g_BadPlaces, h1, h2, h3, init_ok D ⟨rfl, rfl, rfl, by decide +kernel, rfl, by decide +kernel, by decide +kernel⟩ h1 h4 (.inl rfl) (.inl rfl) (by decide +kernel) (by decide +kernel), D.bindsN fun _ _ _ _ _ _ us hl => match us, hl with | [_, _], _ => rfl⟩
theorem xc_BadSteps (F : Fc P w K mg base cs) : ExCls ⟨K, mg, P, w, base, Tb.T⟩ 1 "BadSteps" "index" := by
  obtain ⟨fd, D⟩ := F.x_BadSteps
  obtain ⟨h1, h2, h3, h4⟩ := F.xo_BadSteps
  exact ⟨_, _, fd, _, F.g_BadSteps, h1, h2, h3, init_ok D ⟨rfl, rfl, rfl, by decide +kernel, rfl, by decide +kernel, by decide +kernel⟩ h1 h4 (.inl rfl) (.inl rfl) (by decide +kernel) (by decide +kernel), D.bindsN fun _ _ _ _ _ _ us hl => match us, hl with | [_, _], _ => rfl⟩
theorem ev_is_list (F : Fc P w K mg base cs) {f : Addr} {cdv : Value} {A : Around} {outer : List Env} {s : Shared} {H : Hp} {E : XK} (hT : Tb.T = tabT cs qs) (B : Bd (cxOf (L2.CX P w) P w K mg base ["thing"] "is_list" (defScope s_is_list) f cdv A outer s H E) (WR E) 1) : EvB (cxOf (L2.CX P w) P w K mg base ["thing"] "is_list" (defScope s_is_list) f cdv A outer s H E) (WR E) (defBody s_is_list) c_is_list := 
  (eb_one (es_ret (ev_callB (cr_isa2 F.gfn F.isf F.cmf) rfl F.n_isinstance (by decide +kernel) (ea_cons (ev_var 0) (ea_cons (ev_tup (ea_cons (ev_bty rfl F.n_list (by decide +kernel)) (ea_cons (ev_bty rfl F.n_tuple (by decide +kernel)) ea_nil))) ea_nil)))))
theorem fg_is_list (F : Fc P w K mg base cs) (hT : Tb.T = tabT cs qs) : ∃ fd, FunD K "is_list" "is_list" (defArgs s_is_list) (defBody s_is_list) (defScope s_is_list) [] [] (He.ga K "is_list") fd ∧ FnG ⟨K, mg, P, w, base, Tb.T⟩ 2 (He.ga K "is_list") fd ["thing"] (spF ⟨K, mg, P, w, base, Tb.T⟩ 1 f_is_list) := by
  obtain ⟨fd, D⟩ := F.d_is_list
  exact ⟨fd, D, fn_ok (N := ["thing"]) D ⟨rfl, rfl, rfl, by decide +kernel, rfl, by decide +kernel, by decide +kernel⟩ rfl rfl fun cdv A outer s H E e B => ev_is_list F hT B⟩
theorem kn_is_list (F : Fc P w K mg base cs) (hT : Tb.T = tabT cs qs) : Kn ⟨K, mg, P, w, base, Tb.T⟩ 2 "is_list" 1 f_is_list := by
  obtain ⟨fd, D, h⟩ := fg_is_list F hT
  exact kn_of F.g_is_list D (fun _ _ _ _ _ _ us hl => match us, hl with | [_], _ => rfl) h
theorem ev_is_whole (F : Fc P w K mg base cs) {f : Addr} {cdv : Value} {A : Around} {outer : List Env} {s : Shared} {H : Hp} {E : XK} (hT : Tb.T = tabT cs qs) (B : Bd (cxOf (L2.CX P w) P w K mg base ["thing"] "is_whole" (defScope s_is_whole) f cdv A outer s H E) (WR E) 1) : EvB (cxOf (L2.CX P w) P w K mg base ["thing"] "is_whole" (defScope s_is_whole) f cdv A outer s H E) (WR E) (defBody s_is_whole) c_is_whole := 
  (eb_one (es_ret (ev_and (ev_callB (cr_isa2 F.gfn F.isf F.cmf) rfl F.n_isinstance (by decide +kernel) (ea_cons (ev_var 0) (ea_cons (ev_bty rfl F.n_int (by decide +kernel)) ea_nil))) (ev_and1 (ev_not (ev_callB (cr_isa2 F.gfn F.isf F.cmf) rfl F.n_isinstance (by decide +kernel) (ea_cons (ev_var 0) (ea_cons (ev_bty rfl F.n_bool (by decide +kernel)) ea_nil))))))))
theorem fg_is_whole (F : Fc P w K mg base cs) (hT : Tb.T = tabT cs qs) : ∃ fd, FunD K "is_whole" "is_whole" (defArgs s_is_whole) (defBody s_is_whole) (defScope s_is_whole) [] [] (He.ga K "is_whole") fd ∧ FnG ⟨K, mg, P, w, base, Tb.T⟩ 2 (He.ga K "is_whole") fd ["thing"] (spF ⟨K, mg, P, w, base, Tb.T⟩ 1 f_is_whole) := by
  obtain ⟨fd, D⟩ := F.d_is_whole
  exact ⟨fd, D, fn_ok (N := ["thing"]) D ⟨rfl, rfl, rfl, by decide +kernel, rfl, by decide +kernel, by decide +kernel⟩ rfl rfl fun cdv A outer s H E e B => ev_is_whole F hT B⟩
theorem kn_is_whole (F : Fc P w K mg base cs) (hT : Tb.T = tabT cs qs) : Kn ⟨K, mg, P, w, base, Tb.T⟩ 2 "is_whole" 1 f_is_whole := by
  obtain ⟨fd, D, h⟩ := fg_is_whole F hT
  exact kn_of F.g_is_whole D (fun _ _ _ _ _ _ us hl => match us, hl with | [_], _ => rfl) h
theorem ev_is_positive (F : Fc P w K mg base cs) {f : Addr} {cdv : Value} {A : Around} {outer : List Env} {s : Shared} {H : Hp} {E : XK} (hT : Tb.T = tabT cs qs) (B : Bd (cxOf (L2.CX P w) P w K mg base ["thing"] "is_positive" (defScope s_is_positive) f cdv A outer s H E) (WR E) 2) : EvB (cxOf (L2.CX P w) P w K mg base ["thing"] "is_positive" (defScope s_is_positive) f cdv A outer s H E) (WR E) (defBody s_is_positive) c_is_positive := 
  (eb_one (es_ret (ev_and (ev_call B.toBe ((kn_is_whole F hT).mono (by decide)) rfl (ea_cons (ev_var 0) ea_nil)) (ev_and1 (ev_cmp ok_ge (ev_var 0) ev_int)))))
theorem fg_is_positive (F : Fc P w K mg base cs) (hT : Tb.T = tabT cs qs) : ∃ fd, FunD K "is_positive" "is_positive" (defArgs s_is_positive) (defBody s_is_positive) (defScope s_is_positive) [] [] (He.ga K "is_positive") fd ∧ FnG ⟨K, mg, P, w, base, Tb.T⟩ 3 (He.ga K "is_positive") fd ["thing"] (spF ⟨K, mg, P, w, base, Tb.T⟩ 1 f_is_positive) := by
  obtain ⟨fd, D⟩ := F.d_is_positive
  exact ⟨fd, D, fn_ok (N := ["thing"]) D ⟨rfl, rfl, rfl, by decide +kernel, rfl, by decide +kernel, by decide +kernel⟩ rfl rfl fun cdv A outer s H E e B => ev_is_positive F hT B⟩
theorem kn_is_positive (F : Fc P w K mg base cs) (hT : Tb.T = tabT cs qs) : Kn ⟨K, mg, P, w, base, Tb.T⟩ 3 "is_positive" 1 f_is_positive := by
  obtain ⟨fd, D, h⟩ := fg_is_positive F hT
  exact kn_of F.g_is_positive D (fun _ _ _ _ _ _ us hl => match us, hl with | [_], _ => rfl) h
theorem ev_is_pair (F : Fc P w K mg base cs) {f : Addr} {cdv : Value} {A : Around} {outer : List Env} {s : Shared} {H : Hp} {E : XK} (hT : Tb.T = tabT cs qs) (B : Bd (cxOf (L2.CX P w) P w K mg base ["thing"] "is_pair" (defScope s_is_pair) f cdv A outer s H E) (WR E) 2) : EvB (cxOf (L2.CX P w) P w K mg base ["thing"] "is_pair" (defScope s_is_pair) f cdv A outer s H E) (WR E) (defBody s_is_pair) c_is_pair := 
  (eb_one (es_ret (ev_and (ev_call B.toBe ((kn_is_list F hT).mono (by decide)) rfl (ea_cons (ev_var 0) ea_nil)) (ev_and (ev_cmp (ok_eq B.toBe.u64) (ev_callB cr_len rfl F.n_len (by decide +kernel) (ea_cons (ev_var 0) ea_nil)) ev_int) (ev_and (ev_call B.toBe ((kn_is_whole F hT).mono (by decide)) rfl (ea_cons (ev_ix (ix_all B.toBe.u64) (ev_var 0) ev_int) ea_nil)) (ev_and1 (ev_call B.toBe ((kn_is_whole F hT).mono (by decide)) rfl (ea_cons (ev_ix (ix_all B.toBe.u64) (ev_var 0) ev_int) ea_nil))))))))
theorem fg_is_pair (F : Fc P w K mg base cs) (hT : Tb.T = tabT cs qs) : ∃ fd, FunD K "is_pair" "is_pair" (defArgs s_is_pair) (defBody s_is_pair) (defScope s_is_pair) [] [] (He.ga K "is_pair") fd ∧ FnG ⟨K, mg, P, w, base, Tb.T⟩ 3 (He.ga K "is_pair") fd ["thing"] (spF ⟨K, mg, P, w, base, Tb.T⟩ 1 f_is_pair) := by
  obtain ⟨fd, D⟩ := F.d_is_pair
  exact ⟨fd, D, fn_ok (N := ["thing"]) D ⟨rfl, rfl, rfl, by decide +kernel, rfl, by decide +kernel, by decide +kernel⟩ rfl rfl fun cdv A outer s H E e B => ev_is_pair F hT B⟩
theorem kn_is_pair (F : Fc P w K mg base cs) (hT : Tb.T = tabT cs qs) : Kn ⟨K, mg, P, w, base, Tb.T⟩ 3 "is_pair" 1 f_is_pair := by
  obtain ⟨fd, D, h⟩ := fg_is_pair F hT
  exact kn_of F.g_is_pair D (fun _ _ _ _ _ _ us hl => match us, hl with | [_], _ => rfl) h
theorem ev_as_tuples (F : Fc P w K mg base cs) {f : Addr} {cdv : Value} {A : Around} {outer : List Env} {s : Shared} {H : Hp} {E : XK} {n : Nat} {rc : List SV → AH → R AV} (hrec : Kn ⟨K, mg, P, w, base, Tb.T⟩ (2 + n) "as_tuples" 1 rc) (hT : Tb.T = tabT cs qs) (B : Bd (cxOf (L2.CX P w) P w K mg base ["thing", "part"] "as_tuples" (defScope s_as_tuples) f cdv A outer s H E) (WR E) (2 + n)) : EvB (cxOf (L2.CX P w) P w K mg base ["thing", "part"] "as_tuples" (defScope s_as_tuples) f cdv A outer s H E) (WR E) (defBody s_as_tuples) (c_as_tuples n rc) := 
  (eb_one (es_ret (ev_if (ev_tru (ev_call B.toBe ((kn_is_list F hT).mono (by omega)) rfl (ea_cons (ev_var 0) ea_nil))) (ev_callTy cr_tuple rfl F.n_tuple (by decide +kernel) (ea_cons (ev_lc B.toBe (ei_val (ev_var 0)) (blkOk_by (own := [("part", 1)]) (by kernel_rfl)) (fun s H C cl fp => (eo_name 1 B.toBe.blk.nd (by decide))) (fun s H C cl fp => pts_nilA) (fun s H C cl fp => (ev_call B.toBe.blk hrec rfl (ea_cons (ev_var 1) ea_nil)))) ea_nil)) (ev_var 0))))
theorem fg_as_tuples (F : Fc P w K mg base cs) (hT : Tb.T = tabT cs qs) {n : Nat} (hrec : Kn ⟨K, mg, P, w, base, Tb.T⟩ (2 + n) "as_tuples" 1 (f_as_tuples n)) : ∃ fd, FunD K "as_tuples" "as_tuples" (defArgs s_as_tuples) (defBody s_as_tuples) (defScope s_as_tuples) [] [] (He.ga K "as_tuples") fd ∧ FnG ⟨K, mg, P, w, base, Tb.T⟩ (2 + n + 1) (He.ga K "as_tuples") fd ["thing"] (spF ⟨K, mg, P, w, base, Tb.T⟩ 1 (f_as_tuples (n + 1))) := by
  obtain ⟨fd, D⟩ := F.d_as_tuples
  exact ⟨fd, D, fn_ok (N := ["thing", "part"]) D ⟨rfl, rfl, rfl, by decide +kernel, rfl, by decide +kernel, by decide +kernel⟩ rfl rfl fun cdv A outer s H E e B => ev_as_tuples F hrec hT B⟩
theorem kn_as_tuples (F : Fc P w K mg base cs) (hT : Tb.T = tabT cs qs) : ∀ n : Nat, Kn ⟨K, mg, P, w, base, Tb.T⟩ (2 + n) "as_tuples" 1 (f_as_tuples n)
  | 0 => by
    obtain ⟨fd, D⟩ := F.d_as_tuples
    exact kn_bad (ps := ["thing"]) F.g_as_tuples D (fun _ _ _ _ _ _ us hl => match us, hl with | [_], _ => rfl)
  | n + 1 => by
    obtain ⟨fd, D, h⟩ := fg_as_tuples F hT (kn_as_tuples F hT n)
    exact kn_of F.g_as_tuples D (fun _ _ _ _ _ _ us hl => match us, hl with | [_], _ => rfl) h
theorem ev_first_bad (F : Fc P w K mg base cs) {f : Addr} {cdv : Value} {A : Around} {outer : List Env} {s : Shared} {H : Hp} {E : XK} (hT : Tb.T = tabT cs qs) (B : Bd (cxOf (L2.CX P w) P w K mg base ["things", "is_right", "known", "index", "thing"] "first_bad" (defScope s_first_bad) f cdv A outer s H E) (WR E) 32) : EvB (cxOf (L2.CX P w) P w K mg base ["things", "is_right", "known", "index", "thing"] "first_bad" (defScope s_first_bad) f cdv A outer s H E) (WR E) (defBody s_first_bad) c_first_bad := 
  (eb_cons (es_if (et_not (ev_tru (ev_call B.toBe ((kn_is_list F hT).mono (by decide)) rfl (ea_cons (ev_var 0) ea_nil))))
  (eb_one (es_ret ev_int))
  eb_nil)
  (eb_cons (es_set 2 B.toBe.nd ev_newD)
  (eb_cons (es_for B.own B.toBe.calm (ei_enum rfl F.n_enumerate (ea_cons (ev_var 0) ea_nil)) (eg_tup B.toBe.calm (egs_cons (eg_name 3 B.toBe.nd) (egs_cons (eg_name 4 B.toBe.nd) egs_nil)))
  (eb_cons (es_if (et_w (et_or (et_not (ev_tru (ev_clo 1 B.toBe (ea_cons (ev_var 4) ea_nil)))) (et_or1 (et_cmp (ok_In B.toBe.u65) (ev_call B.toBe ((kn_as_tuples F hT 30).mono (by decide)) rfl (ea_cons (ev_var 4) ea_nil)) (ev_var 2)))))
  (eb_one (es_ret (ev_var 3)))
  eb_nil)
  (eb_one (es_asg ev_bl (eg_sub B.toBe.u64 (ev_var 2) (ev_call B.toBe ((kn_as_tuples F hT 30).mono (by decide)) rfl (ea_cons (ev_var 4) ea_nil)))))))
  (eb_one (es_ret ev_non)))))
theorem fg_first_bad (F : Fc P w K mg base cs) (hT : Tb.T = tabT cs qs) : ∃ fd, FunD K "first_bad" "first_bad" (defArgs s_first_bad) (defBody s_first_bad) (defScope s_first_bad) [] [] (He.ga K "first_bad") fd ∧ FnG ⟨K, mg, P, w, base, Tb.T⟩ 33 (He.ga K "first_bad") fd ["things", "is_right"] (spF ⟨K, mg, P, w, base, Tb.T⟩ 2 f_first_bad) := by
  obtain ⟨fd, D⟩ := F.d_first_bad
  exact ⟨fd, D, fn_ok (N := ["things", "is_right", "known", "index", "thing"]) D ⟨rfl, rfl, rfl, by decide +kernel, rfl, by decide +kernel, by decide +kernel⟩ rfl rfl fun cdv A outer s H E e B => ev_first_bad F hT B⟩
theorem kn_first_bad (F : Fc P w K mg base cs) (hT : Tb.T = tabT cs qs) : Kn ⟨K, mg, P, w, base, Tb.T⟩ 33 "first_bad" 2 f_first_bad := by
  obtain ⟨fd, D, h⟩ := fg_first_bad F hT
  exact kn_of F.g_first_bad D (fun _ _ _ _ _ _ us hl => match us, hl with | [_, _], _ => rfl) h
theorem ev_is_place (F : Fc P w K mg base cs) {f : Addr} {cdv : Value} {A : Around} {outer : List Env} {s : Shared} {H : Hp} {E : XK} (hT : Tb.T = tabT cs qs) (B : Bd (cxOf (L2.CX P w) P w K mg base ["thing", "places"] "is_place" (defScope s_is_place) f cdv A outer s H E) (WR E) 2) : EvB (cxOf (L2.CX P w) P w K mg base ["thing", "places"] "is_place" (defScope s_is_place) f cdv A outer s H E) (WR E) (defBody s_is_place) c_is_place := 
  (eb_one (es_ret (ev_and (ev_call B.toBe ((kn_is_whole F hT).mono (by decide)) rfl (ea_cons (ev_var 0) ea_nil)) (ev_and1 (ev_chain ok_le ok_lt ev_int (ev_var 0) (ev_var 1))))))
theorem fg_is_place (F : Fc P w K mg base cs) (hT : Tb.T = tabT cs qs) : ∃ fd, FunD K "is_place" "is_place" (defArgs s_is_place) (defBody s_is_place) (defScope s_is_place) [] [] (He.ga K "is_place") fd ∧ FnG ⟨K, mg, P, w, base, Tb.T⟩ 3 (He.ga K "is_place") fd ["thing", "places"] (spF ⟨K, mg, P, w, base, Tb.T⟩ 2 f_is_place) := by
  obtain ⟨fd, D⟩ := F.d_is_place
  exact ⟨fd, D, fn_ok (N := ["thing", "places"]) D ⟨rfl, rfl, rfl, by decide +kernel, rfl, by decide +kernel, by decide +kernel⟩ rfl rfl fun cdv A outer s H E e B => ev_is_place F hT B⟩
theorem kn_is_place (F : Fc P w K mg base cs) (hT : Tb.T = tabT cs qs) : Kn ⟨K, mg, P, w, base, Tb.T⟩ 3 "is_place" 2 f_is_place := by
  obtain ⟨fd, D, h⟩ := fg_is_place F hT
  exact kn_of F.g_is_place D (fun _ _ _ _ _ _ us hl => match us, hl with | [_, _], _ => rfl) h
theorem ev_is_step (F : Fc P w K mg base cs) {f : Addr} {cdv : Value} {A : Around} {outer : List Env} {s : Shared} {H : Hp} {E : XK} (hT : Tb.T = tabT cs qs) (B : Bd (cxOf (L2.CX P w) P w K mg base ["thing", "places"] "is_step" (defScope s_is_step) f cdv A outer s H E) (WR E) 3) : EvB (cxOf (L2.CX P w) P w K mg base ["thing", "places"] "is_step" (defScope s_is_step) f cdv A outer s H E) (WR E) (defBody s_is_step) c_is_step := 
  (eb_cons (es_if (et_w (et_or (et_not (ev_tru (ev_call B.toBe ((kn_is_list F hT).mono (by decide)) rfl (ea_cons (ev_var 0) ea_nil)))) (et_or (et_cmp (ok_ne B.toBe.u64) (ev_callB cr_len rfl F.n_len (by decide +kernel) (ea_cons (ev_var 0) ea_nil)) ev_int) (et_or (et_not (ev_tru (ev_call B.toBe ((kn_is_place F hT).mono (by decide)) rfl (ea_cons (ev_ix (ix_all B.toBe.u64) (ev_var 0) ev_int) (ea_cons (ev_var 1) ea_nil))))) (et_or1 (et_not (ev_tru (ev_call B.toBe ((kn_is_place F hT).mono (by decide)) rfl (ea_cons (ev_ix (ix_all B.toBe.u64) (ev_var 0) ev_int) (ea_cons (ev_var 1) ea_nil))))))))))
  (eb_one (es_ret ev_bl))
  eb_nil)
  (eb_one (es_ret (ev_and (ev_call B.toBe ((kn_is_pair F hT).mono (by decide)) rfl (ea_cons (ev_ix (ix_all B.toBe.u64) (ev_var 0) ev_int) ea_nil)) (ev_and (ev_call B.toBe ((kn_is_positive F hT).mono (by decide)) rfl (ea_cons (ev_ix (ix_all B.toBe.u64) (ev_var 0) ev_int) ea_nil)) (ev_and1 (ev_call B.toBe ((kn_is_whole F hT).mono (by decide)) rfl (ea_cons (ev_ix (ix_all B.toBe.u64) (ev_var 0) ev_int) ea_nil))))))))
theorem fg_is_step (F : Fc P w K mg base cs) (hT : Tb.T = tabT cs qs) : ∃ fd, FunD K "is_step" "is_step" (defArgs s_is_step) (defBody s_is_step) (defScope s_is_step) [] [] (He.ga K "is_step") fd ∧ FnG ⟨K, mg, P, w, base, Tb.T⟩ 4 (He.ga K "is_step") fd ["thing", "places"] (spF ⟨K, mg, P, w, base, Tb.T⟩ 2 f_is_step) := by
  obtain ⟨fd, D⟩ := F.d_is_step
  exact ⟨fd, D, fn_ok (N := ["thing", "places"]) D ⟨rfl, rfl, rfl, by decide +kernel, rfl, by decide +kernel, by decide +kernel⟩ rfl rfl fun cdv A outer s H E e B => ev_is_step F hT B⟩
theorem kn_is_step (F : Fc P w K mg base cs) (hT : Tb.T = tabT cs qs) : Kn ⟨K, mg, P, w, base, Tb.T⟩ 4 "is_step" 2 f_is_step := by
  obtain ⟨fd, D, h⟩ := fg_is_step F hT
  exact kn_of F.g_is_step D (fun _ _ _ _ _ _ us hl => match us, hl with | [_, _], _ => rfl) h
theorem ev_Web_init (F : Fc P w K mg base cs) {f : Addr} {cdv : Value} {A : Around} {outer : List Env} {s : Shared} {H : Hp} {E : XK} {fd : FuncData} (hl : ∃ c P, cs[0]? = some (c, P) ∧ cdv = .ref c ∧ LamX.TabB base mg c P) (hT : Tb.T = tabT cs qs) (B : Bd (cxOf (L2.CX P w) P w K mg base ["self", "places", "steps", "wrong", "step"] "Web.__init__" (defScope s_Web_init) f cdv A outer s H E) (WR E) 33) : EvB (cxOf (L2.CX P w) P w K mg base ["self", "places", "steps", "wrong", "step"] "Web.__init__" (defScope s_Web_init) f cdv A outer s H E) (WR E) (defBody s_Web_init) c_Web_init := by
  obtain ⟨c0, P0, hc0, e0, tb0⟩ := hl
  have LM : LmOk (cxOf (L2.CX P w) P w K mg base ["self", "places", "steps", "wrong", "step"] "Web.__init__" (defScope s_Web_init) f cdv A outer s H E) := lm_ok (i := 0) hT F.nd hc0 rfl e0 tb0
  exact (eb_cons (es_if (et_not (ev_tru (ev_call B.toBe ((kn_is_positive F hT).mono (by decide)) rfl (ea_cons (ev_var 1) ea_nil))))
  (eb_one (es_raise B ((xc_BadPlaces F).mono (by decide)) rfl (ev_var 1)))
  eb_nil)
  (eb_cons (es_set 3 B.toBe.nd (ev_callX B ((kn_first_bad F hT).mono (by decide)) rfl (ex_cons (ev_var 2) (ex_lam (ps := ["thing"]) (fr := ["places"]) (js := [1]) LM ⟨lamP_by (by kernel_rfl), (js_by (N := ["self", "places", "steps", "wrong", "step"]) (fr := ["places"]) (js := [1]) rfl).1, (js_by (N := ["self", "places", "steps", "wrong", "step"]) (fr := ["places"]) (js := [1]) rfl).2, fun _ _ _ _ _ us hl => match us, hl with | [_], _ => rfl, fun A outer s1 H1 E f c' B => (ev_call B.toBe ((kn_is_step F hT).mono (by decide)) rfl (ea_cons (ev_var 0) (ea_cons (ev_var 1) ea_nil)))⟩ ex_nil))))
  (eb_cons (es_if (et_cmp ok_isn (ev_var 3) ev_non)
  (eb_one (es_raise B ((xc_BadSteps F).mono (by decide)) rfl (ev_var 3)))
  eb_nil)
  (eb_cons (es_fld F.cf_Web_own_places (ev_var 0) (ev_var 1))
  (eb_one (es_fld F.cf_Web_own_steps (ev_var 0) (ev_callB (cr_sorted B.toBe) rfl F.n_sorted (by decide +kernel) (ea_cons (ev_lc B.toBe (ei_val (ev_var 2)) (blkOk_by (own := [("step", 4)]) (by kernel_rfl)) (fun s H C cl fp => (eo_name 4 B.toBe.blk.nd (by decide))) (fun s H C cl fp => pts_nilA) (fun s H C cl fp => (ev_call B.toBe.blk ((kn_as_tuples F hT 30).mono (by decide)) rfl (ea_cons (ev_var 4) ea_nil)))) ea_nil))))))))
theorem fg_Web_init (F : Fc P w K mg base cs) (hT : Tb.T = tabT cs qs) : ∃ fd, FunD K "__init__" "Web.__init__" (defArgs s_Web_init) (defBody s_Web_init) (defScope s_Web_init) [] [] (He.ma K (He.ga K "Web") "__init__") fd ∧ FnG ⟨K, mg, P, w, base, Tb.T⟩ 34 (He.ma K (He.ga K "Web") "__init__") fd ["self", "places", "steps"] (spF ⟨K, mg, P, w, base, Tb.T⟩ 3 f_Web_init) := by
  obtain ⟨fd, D⟩ := F.d_Web_init
  exact ⟨fd, D, fn_ok (N := ["self", "places", "steps", "wrong", "step"]) D ⟨rfl, rfl, rfl, by decide +kernel, rfl, by decide +kernel, by decide +kernel⟩ rfl rfl fun cdv A outer s H E e B => ev_Web_init (fd := fd) F (by obtain ⟨c, P0, h1, h2, h3⟩ := F.l_Web_init _ D; exact ⟨c, P0, h1, e.trans h2, h3⟩) hT B⟩
theorem kni_Web (F : Fc P w K mg base cs) (hT : Tb.T = tabT cs qs) : KnI ⟨K, mg, P, w, base, Tb.T⟩ 34 "Web" 3 f_Web_init := by
  obtain ⟨fd, D, h⟩ := fg_Web_init F hT
  exact ⟨_, _, fd, _, F.g_Web, F.mk_Web, h, D.bindsN (fun _ _ _ _ _ _ us hl => match us, hl with | [_, _, _], _ => rfl)⟩
theorem kniw_Web_steps_places (F : Fc P w K mg base cs) (hT : Tb.T = tabT cs qs) : KnIW ⟨K, mg, P, w, base, Tb.T⟩ 34 "Web" 3 f_Web_init ["steps", "places"] [0, 2, 1] := by
  obtain ⟨fd, D, h⟩ := fg_Web_init F hT
  exact kniw_of F.g_Web F.mk_Web D (fun _ _ _ _ _ _ us vs h1 h2 => match us, vs, h1, h2 with | [_], [_, _], _, _ => rfl) h
theorem ev_Web_places (F : Fc P w K mg base cs) {f : Addr} {cdv : Value} {A : Around} {outer : List Env} {s : Shared} {H : Hp} {E : XK} (hT : Tb.T = tabT cs qs) (B : Bd (cxOf (L2.CX P w) P w K mg base ["self"] "Web.places" (defScope s_Web_places) f cdv A outer s H E) (WR E) 1) : EvB (cxOf (L2.CX P w) P w K mg base ["self"] "Web.places" (defScope s_Web_places) f cdv A outer s H E) (WR E) (defBody s_Web_places) c_Web_places := 
  (eb_one (es_ret (ev_fld F.cf_Web_own_places (ev_var 0))))
theorem fg_Web_places (F : Fc P w K mg base cs) (hT : Tb.T = tabT cs qs) : ∃ fd, FunD K "places" "Web.places" (defArgs s_Web_places) (defBody s_Web_places) (defScope s_Web_places) [] [] (He.ma K (He.ga K "Web") "places") fd ∧ FnG ⟨K, mg, P, w, base, Tb.T⟩ 2 (He.ma K (He.ga K "Web") "places") fd ["self"] (spF ⟨K, mg, P, w, base, Tb.T⟩ 1 f_Web_places) := by
  obtain ⟨fd, D⟩ := F.d_Web_places
  exact ⟨fd, D, fn_ok (N := ["self"]) D ⟨rfl, rfl, rfl, by decide +kernel, rfl, by decide +kernel, by decide +kernel⟩ rfl rfl fun cdv A outer s H E e B => ev_Web_places F hT B⟩
theorem knm_Web_places (F : Fc P w K mg base cs) (hT : Tb.T = tabT cs qs) : KnM ⟨K, mg, P, w, base, Tb.T⟩ 2 "Web" "places" 1 f_Web_places := by
  obtain ⟨fd, D, h⟩ := fg_Web_places F hT
  exact ⟨_, _, fd, _, F.g_Web, F.co_Web, F.me_Web_places, h, D.bindsN (fun _ _ _ _ _ _ us hl => match us, hl with | [_], _ => rfl)⟩
theorem ev_Web_steps (F : Fc P w K mg base cs) {f : Addr} {cdv : Value} {A : Around} {outer : List Env} {s : Shared} {H : Hp} {E : XK} (hT : Tb.T = tabT cs qs) (B : Bd (cxOf (L2.CX P w) P w K mg base ["self"] "Web.steps" (defScope s_Web_steps) f cdv A outer s H E) (WR E) 1) : EvB (cxOf (L2.CX P w) P w K mg base ["self"] "Web.steps" (defScope s_Web_steps) f cdv A outer s H E) (WR E) (defBody s_Web_steps) c_Web_steps := 
  (eb_one (es_ret (ev_callTy cr_list rfl F.n_list (by decide +kernel) (ea_cons (ev_fld F.cf_Web_own_steps (ev_var 0)) ea_nil))))
theorem fg_Web_steps (F : Fc P w K mg base cs) (hT : Tb.T = tabT cs qs) : ∃ fd, FunD K "steps" "Web.steps" (defArgs s_Web_steps) (defBody s_Web_steps) (defScope s_Web_steps) [] [] (He.ma K (He.ga K "Web") "steps") fd ∧ FnG ⟨K, mg, P, w, base, Tb.T⟩ 2 (He.ma K (He.ga K "Web") "steps") fd ["self"] (spF ⟨K, mg, P, w, base, Tb.T⟩ 1 f_Web_steps) := by
  obtain ⟨fd, D⟩ := F.d_Web_steps
  exact ⟨fd, D, fn_ok (N := ["self"]) D ⟨rfl, rfl, rfl, by decide +kernel, rfl, by decide +kernel, by decide +kernel⟩ rfl rfl fun cdv A outer s H E e B => ev_Web_steps F hT B⟩
theorem knm_Web_steps (F : Fc P w K mg base cs) (hT : Tb.T = tabT cs qs) : KnM ⟨K, mg, P, w, base, Tb.T⟩ 2 "Web" "steps" 1 f_Web_steps := by
  obtain ⟨fd, D, h⟩ := fg_Web_steps F hT
  exact ⟨_, _, fd, _, F.g_Web, F.co_Web, F.me_Web_steps, h, D.bindsN (fun _ _ _ _ _ _ us hl => match us, hl with | [_], _ => rfl)⟩
theorem ev_Web_eq (F : Fc P w K mg base cs) {f : Addr} {cdv : Value} {A : Around} {outer : List Env} {s : Shared} {H : Hp} {E : XK} (hT : Tb.T = tabT cs qs) (B : Bd (cxOf (L2.CX P w) P w K mg base ["self", "other"] "Web.__eq__" (defScope s_Web_eq) f cdv A outer s H E) (WR E) 1) : EvB (cxOf (L2.CX P w) P w K mg base ["self", "other"] "Web.__eq__" (defScope s_Web_eq) f cdv A outer s H E) (WR E) (defBody s_Web_eq) c_Web_eq := 
  (eb_cons (es_if (et_not (ev_tru (ev_callB (cr_isa2 F.gfn F.isf F.cmf) rfl F.n_isinstance (by decide +kernel) (ea_cons (ev_var 1) (ea_cons (ev_glo (x := "Web") rfl F.g_Web) ea_nil)))))
  (eb_one (es_ret ev_bl))
  eb_nil)
  (eb_one (es_ret (ev_and (ev_cmp (ok_eq B.toBe.u64) (ev_fld F.cf_Web_own_places (ev_var 0)) (ev_fld F.cf_Web_own_places (ev_var 1))) (ev_and1 (ev_cmp (ok_eq B.toBe.u64) (ev_fld F.cf_Web_own_steps (ev_var 0)) (ev_fld F.cf_Web_own_steps (ev_var 1))))))))
theorem fg_Web_eq (F : Fc P w K mg base cs) (hT : Tb.T = tabT cs qs) : ∃ fd, FunD K "__eq__" "Web.__eq__" (defArgs s_Web_eq) (defBody s_Web_eq) (defScope s_Web_eq) [] [] (He.ma K (He.ga K "Web") "__eq__") fd ∧ FnG ⟨K, mg, P, w, base, Tb.T⟩ 2 (He.ma K (He.ga K "Web") "__eq__") fd ["self", "other"] (spF ⟨K, mg, P, w, base, Tb.T⟩ 2 f_Web_eq) := by
  obtain ⟨fd, D⟩ := F.d_Web_eq
  exact ⟨fd, D, fn_ok (N := ["self", "other"]) D ⟨rfl, rfl, rfl, by decide +kernel, rfl, by decide +kernel, by decide +kernel⟩ rfl rfl fun cdv A outer s H E e B => ev_Web_eq F hT B⟩
theorem kneq_Web (F : Fc P w K mg base cs) (hT : Tb.T = tabT cs qs) : KnEq ⟨K, mg, P, w, base, Tb.T⟩ 2 "Web" f_Web_eq := by
  obtain ⟨fd, D, h⟩ := fg_Web_eq F hT
  refine ⟨fun C m => ?_⟩
  have e : Value.ref C = .ref (He.ga K "Web") := Option.some.inj (m.symm.trans F.g_Web)
  cases e
  exact ⟨_, fd, _, F.eq_Web.1, F.eq_Web.2, h, D.bindsN (fun _ _ _ _ _ _ us hl => match us, hl with | [_, _], _ => rfl)⟩
theorem ev_law_stream (F : Fc P w K mg base cs) {f : Addr} {cdv : Value} {A : Around} {outer : List Env} {s : Shared} {H : Hp} {E : XK} (hT : Tb.T = tabT cs qs) (B : Bd (cxOf (L2.CX P w) P w K mg base ["_law_script"] "_law_stream" (defScope s_law_stream) f cdv A outer s H E) (WR E) 1) : EvB (cxOf (L2.CX P w) P w K mg base ["_law_script"] "_law_stream" (defScope s_law_stream) f cdv A outer s H E) (WR E) (defBody s_law_stream) c_law_stream := 
  (eb_one (es_ret (ev_lst (ea_cons (ev_listScr 0 rfl F.n_list) (ea_cons ev_int (ea_cons ev_int (ea_cons ev_int ea_nil)))))))
theorem fg_law_stream (F : Fc P w K mg base cs) (hT : Tb.T = tabT cs qs) : ∃ fd, FunD K "_law_stream" "_law_stream" (defArgs s_law_stream) (defBody s_law_stream) (defScope s_law_stream) [] [] (He.ga K "_law_stream") fd ∧ FnG ⟨K, mg, P, w, base, Tb.T⟩ 2 (He.ga K "_law_stream") fd ["_law_script"] (spF ⟨K, mg, P, w, base, Tb.T⟩ 1 f_law_stream) := by
  obtain ⟨fd, D⟩ := F.d_law_stream
  exact ⟨fd, D, fn_ok (N := ["_law_script"]) D ⟨rfl, rfl, rfl, by decide +kernel, rfl, by decide +kernel, by decide +kernel⟩ rfl rfl fun cdv A outer s H E e B => ev_law_stream F hT B⟩
theorem kn_law_stream (F : Fc P w K mg base cs) (hT : Tb.T = tabT cs qs) : Kn ⟨K, mg, P, w, base, Tb.T⟩ 2 "_law_stream" 1 f_law_stream := by
  obtain ⟨fd, D, h⟩ := fg_law_stream F hT
  exact kn_of F.g_law_stream D (fun _ _ _ _ _ _ us hl => match us, hl with | [_], _ => rfl) h
theorem ev_law_draw (F : Fc P w K mg base cs) {f : Addr} {cdv : Value} {A : Around} {outer : List Env} {s : Shared} {H : Hp} {E : XK} (hT : Tb.T = tabT cs qs) (B : Bd (cxOf (L2.CX P w) P w K mg base ["_law_stream_here", "_law_many", "_law_cell", "_law_digit", "_law_mixed_here"] "_law_draw" (defScope s_law_draw) f cdv A outer s H E) (WR E) 1) : EvB (cxOf (L2.CX P w) P w K mg base ["_law_stream_here", "_law_many", "_law_cell", "_law_digit", "_law_mixed_here"] "_law_draw" (defScope s_law_draw) f cdv A outer s H E) (WR E) (defBody s_law_draw) c_law_draw := 
  (eb_cons (es_asg (ev_bin ok_add (ev_ix (ix_all B.toBe.u64) (ev_var 0) ev_int) ev_int) (eg_sub B.toBe.u64 (ev_var 0) ev_int))
  (eb_cons (es_while B.own (et_w (et_and (et_cmp (ok_eq B.toBe.u64) (ev_ix (ix_all B.toBe.u64) (ev_var 0) ev_int) ev_int) (et_and1 (et_cmp (ok_ne B.toBe.u64) (ev_ix (ix_all B.toBe.u64) (ev_var 0) ev_int) (ev_lst ea_nil)))))
  (eb_cons (es_set 2 B.toBe.nd (ev_callB cr_abs rfl F.n_abs (by decide +kernel) (ea_cons (ev_meth mf_pop1 (ev_ix (ix_all B.toBe.u64) (ev_var 0) ev_int) (ea_cons ev_int ea_nil)) ea_nil)))
  (eb_cons (es_asg (ev_bin ok_mod (ev_callTy cr_int rfl F.n_int (by decide +kernel) (ea_cons (ev_bin ok_add (ev_bin ok_add (ev_bin ok_mul (ev_ix (ix_all B.toBe.u64) (ev_var 0) ev_int) ev_int) (ev_var 2)) ev_int) ea_nil)) ev_int) (eg_sub B.toBe.u64 (ev_var 0) ev_int))
  (eb_one (es_asg (ev_if (et_cmp ok_ge (ev_var 2) (ev_bin ok_pow ev_int ev_int)) (ev_var 2) ev_int) (eg_sub B.toBe.u64 (ev_var 0) ev_int))))))
  (eb_cons (es_if (et_cmp ok_gt (ev_ix (ix_all B.toBe.u64) (ev_var 0) ev_int) ev_int)
  (eb_cons (es_set 3 B.toBe.nd (ev_bin ok_mod (ev_callTy cr_int rfl F.n_int (by decide +kernel) (ea_cons (ev_ix (ix_all B.toBe.u64) (ev_var 0) ev_int) ea_nil)) (ev_var 1)))
  (eb_cons (es_asg (ev_bin ok_div (ev_ix (ix_all B.toBe.u64) (ev_var 0) ev_int) (ev_var 1)) (eg_sub B.toBe.u64 (ev_var 0) ev_int))
  (eb_one (es_ret (ev_var 3)))))
  eb_nil)
  (eb_cons (es_set 4 B.toBe.nd (ev_bin ok_mod (ev_callTy cr_int rfl F.n_int (by decide +kernel) (ea_cons (ev_bin ok_pow (ev_bin ok_add (ev_bin ok_add (ev_ix (ix_all B.toBe.u64) (ev_var 0) ev_int) (ev_bin ok_mul ev_int (ev_ix (ix_all B.toBe.u64) (ev_var 0) ev_int))) ev_int) ev_int) ea_nil)) ev_int))
  (eb_one (es_ret (ev_bin ok_mod (ev_bin ok_mod (ev_callTy cr_int rfl F.n_int (by decide +kernel) (ea_cons (ev_bin ok_pow (ev_bin ok_add (ev_bin ok_add (ev_bin ok_mul (ev_var 4) ev_int) (ev_bin ok_mul ev_int (ev_ix (ix_all B.toBe.u64) (ev_var 0) ev_int))) ev_int) ev_int) ea_nil)) ev_int) (ev_var 1))))))))
theorem fg_law_draw (F : Fc P w K mg base cs) (hT : Tb.T = tabT cs qs) : ∃ fd, FunD K "_law_draw" "_law_draw" (defArgs s_law_draw) (defBody s_law_draw) (defScope s_law_draw) [] [] (He.ga K "_law_draw") fd ∧ FnG ⟨K, mg, P, w, base, Tb.T⟩ 2 (He.ga K "_law_draw") fd ["_law_stream_here", "_law_many"] (spF ⟨K, mg, P, w, base, Tb.T⟩ 2 f_law_draw) := by
  obtain ⟨fd, D⟩ := F.d_law_draw
  exact ⟨fd, D, fn_ok (N := ["_law_stream_here", "_law_many", "_law_cell", "_law_digit", "_law_mixed_here"]) D ⟨rfl, rfl, rfl, by decide +kernel, rfl, by decide +kernel, by decide +kernel⟩ rfl rfl fun cdv A outer s H E e B => ev_law_draw F hT B⟩
theorem kn_law_draw (F : Fc P w K mg base cs) (hT : Tb.T = tabT cs qs) : Kn ⟨K, mg, P, w, base, Tb.T⟩ 2 "_law_draw" 2 f_law_draw := by
  obtain ⟨fd, D, h⟩ := fg_law_draw F hT
  exact kn_of F.g_law_draw D (fun _ _ _ _ _ _ us hl => match us, hl with | [_, _], _ => rfl) h
theorem ev_law_pick (F : Fc P w K mg base cs) {f : Addr} {cdv : Value} {A : Around} {outer : List Env} {s : Shared} {H : Hp} {E : XK} (hT : Tb.T = tabT cs qs) (B : Bd (cxOf (L2.CX P w) P w K mg base ["_law_stream_here", "_law_things"] "_law_pick" (defScope s_law_pick) f cdv A outer s H E) (WR E) 2) : EvB (cxOf (L2.CX P w) P w K mg base ["_law_stream_here", "_law_things"] "_law_pick" (defScope s_law_pick) f cdv A outer s H E) (WR E) (defBody s_law_pick) c_law_pick := 
  (eb_one (es_ret (ev_ix (ix_all B.toBe.u64) (ev_var 1) (ev_call B.toBe ((kn_law_draw F hT).mono (by decide)) rfl (ea_cons (ev_var 0) (ea_cons (ev_callB cr_len rfl F.n_len (by decide +kernel) (ea_cons (ev_var 1) ea_nil)) ea_nil))))))
theorem fg_law_pick (F : Fc P w K mg base cs) (hT : Tb.T = tabT cs qs) : ∃ fd, FunD K "_law_pick" "_law_pick" (defArgs s_law_pick) (defBody s_law_pick) (defScope s_law_pick) [] [] (He.ga K "_law_pick") fd ∧ FnG ⟨K, mg, P, w, base, Tb.T⟩ 3 (He.ga K "_law_pick") fd ["_law_stream_here", "_law_things"] (spF ⟨K, mg, P, w, base, Tb.T⟩ 2 f_law_pick) := by
  obtain ⟨fd, D⟩ := F.d_law_pick
  exact ⟨fd, D, fn_ok (N := ["_law_stream_here", "_law_things"]) D ⟨rfl, rfl, rfl, by decide +kernel, rfl, by decide +kernel, by decide +kernel⟩ rfl rfl fun cdv A outer s H E e B => ev_law_pick F hT B⟩
theorem kn_law_pick (F : Fc P w K mg base cs) (hT : Tb.T = tabT cs qs) : Kn ⟨K, mg, P, w, base, Tb.T⟩ 3 "_law_pick" 2 f_law_pick := by
  obtain ⟨fd, D, h⟩ := fg_law_pick F hT
  exact kn_of F.g_law_pick D (fun _ _ _ _ _ _ us hl => match us, hl with | [_, _], _ => rfl) h
theorem ev_law_mixed (F : Fc P w K mg base cs) {f : Addr} {cdv : Value} {A : Around} {outer : List Env} {s : Shared} {H : Hp} {E : XK} (hT : Tb.T = tabT cs qs) (B : Bd (cxOf (L2.CX P w) P w K mg base ["_law_stream_here", "_law_things", "_law_left", "_law_found", "_law_k"] "_law_mixed" (defScope s_law_mixed) f cdv A outer s H E) (WR E) 2) : EvB (cxOf (L2.CX P w) P w K mg base ["_law_stream_here", "_law_things", "_law_left", "_law_found", "_law_k"] "_law_mixed" (defScope s_law_mixed) f cdv A outer s H E) (WR E) (defBody s_law_mixed) c_law_mixed := 
  (eb_cons (es_par 2 3 B.toBe.calm B.toBe.nd (ea_cons (ev_callTy cr_list rfl F.n_list (by decide +kernel) (ea_cons (ev_var 1) ea_nil)) (ea_cons (ev_lst ea_nil) ea_nil)))
  (eb_cons (es_for B.own B.toBe.calm (ei_range1 rfl F.n_range (ea_cons (ev_callB cr_len rfl F.n_len (by decide +kernel) (ea_cons (ev_var 2) ea_nil)) ea_nil)) (eg_name 4 B.toBe.nd)
  (eb_one (es_expr (ev_meth mf_append (ev_var 3) (ea_cons (ev_meth mf_pop1 (ev_var 2) (ea_cons (ev_call B.toBe ((kn_law_draw F hT).mono (by decide)) rfl (ea_cons (ev_var 0) (ea_cons (ev_callB cr_len rfl F.n_len (by decide +kernel) (ea_cons (ev_var 2) ea_nil)) ea_nil))) ea_nil)) ea_nil)))))
  (eb_one (es_ret (ev_var 3)))))
theorem fg_law_mixed (F : Fc P w K mg base cs) (hT : Tb.T = tabT cs qs) : ∃ fd, FunD K "_law_mixed" "_law_mixed" (defArgs s_law_mixed) (defBody s_law_mixed) (defScope s_law_mixed) [] [] (He.ga K "_law_mixed") fd ∧ FnG ⟨K, mg, P, w, base, Tb.T⟩ 3 (He.ga K "_law_mixed") fd ["_law_stream_here", "_law_things"] (spF ⟨K, mg, P, w, base, Tb.T⟩ 2 f_law_mixed) := by
  obtain ⟨fd, D⟩ := F.d_law_mixed
  exact ⟨fd, D, fn_ok (N := ["_law_stream_here", "_law_things", "_law_left", "_law_found", "_law_k"]) D ⟨rfl, rfl, rfl, by decide +kernel, rfl, by decide +kernel, by decide +kernel⟩ rfl rfl fun cdv A outer s H E e B => ev_law_mixed F hT B⟩
theorem kn_law_mixed (F : Fc P w K mg base cs) (hT : Tb.T = tabT cs qs) : Kn ⟨K, mg, P, w, base, Tb.T⟩ 3 "_law_mixed" 2 f_law_mixed := by
  obtain ⟨fd, D, h⟩ := fg_law_mixed F hT
  exact kn_of F.g_law_mixed D (fun _ _ _ _ _ _ us hl => match us, hl with | [_, _], _ => rfl) h
theorem ev_law_same (F : Fc P w K mg base cs) {f : Addr} {cdv : Value} {A : Around} {outer : List Env} {s : Shared} {H : Hp} {E : XK} {n : Nat} {rc : List SV → AH → R AV} (hrec : Kn ⟨K, mg, P, w, base, Tb.T⟩ (1 + n) "_law_same" 2 rc) (hT : Tb.T = tabT cs qs) (B : Bd (cxOf (L2.CX P w) P w K mg base ["_law_found", "_law_due", "_law_mine", "_law_theirs"] "_law_same" (defScope s_law_same) f cdv A outer s H E) (WR E) (1 + n)) : EvB (cxOf (L2.CX P w) P w K mg base ["_law_found", "_law_due", "_law_mine", "_law_theirs"] "_law_same" (defScope s_law_same) f cdv A outer s H E) (WR E) (defBody s_law_same) (c_law_same n rc) := 
  (eb_cons (es_if (ev_tru (ev_callB (cr_isa2 F.gfn F.isf F.cmf) rfl F.n_isinstance (by decide +kernel) (ea_cons (ev_var 1) (ea_cons (ev_tup (ea_cons (ev_bty rfl F.n_list (by decide +kernel)) (ea_cons (ev_bty rfl F.n_tuple (by decide +kernel)) ea_nil))) ea_nil))))
  (eb_cons (es_if (et_w (et_or (et_cmp (ok_neY (B.toBe.toS (k := 0 + n) (by omega)) F.gfn F.fnd F.isf F.cmf KnEqs.nil) (ev_callB (cr_isa2 F.gfn F.isf F.cmf) rfl F.n_isinstance (by decide +kernel) (ea_cons (ev_var 0) (ea_cons (ev_bty rfl F.n_list (by decide +kernel)) ea_nil))) (ev_callB (cr_isa2 F.gfn F.isf F.cmf) rfl F.n_isinstance (by decide +kernel) (ea_cons (ev_var 1) (ea_cons (ev_bty rfl F.n_list (by decide +kernel)) ea_nil)))) (et_or1 (et_cmp (ok_neY (B.toBe.toS (k := 0 + n) (by omega)) F.gfn F.fnd F.isf F.cmf KnEqs.nil) (ev_callB (cr_isa2 F.gfn F.isf F.cmf) rfl F.n_isinstance (by decide +kernel) (ea_cons (ev_var 0) (ea_cons (ev_bty rfl F.n_tuple (by decide +kernel)) ea_nil))) (ev_callB (cr_isa2 F.gfn F.isf F.cmf) rfl F.n_isinstance (by decide +kernel) (ea_cons (ev_var 1) (ea_cons (ev_bty rfl F.n_tuple (by decide +kernel)) ea_nil)))))))
  (eb_one (es_ret ev_bl))
  eb_nil)
  (eb_one (es_ret (ev_and (ev_cmp (ok_eqX (B.toBe.toS (k := 0 + n) (by omega)) F.gfn F.isf F.cmf KnEqs.nil) (ev_callB cr_len rfl F.n_len (by decide +kernel) (ea_cons (ev_var 0) ea_nil)) (ev_callB cr_len rfl F.n_len (by decide +kernel) (ea_cons (ev_var 1) ea_nil))) (ev_and1 (ev_callB (cr_allA B.toBe.calm) rfl F.n_all (by decide +kernel) (ea_cons (ev_lc B.toBe (ei_zip rfl F.n_zip (ea_cons (ev_var 0) (ea_cons (ev_var 1) ea_nil))) (blkOk_by (own := [("_law_mine", 2), ("_law_theirs", 3)]) (by kernel_rfl)) (fun s H C cl fp => (eo_tup B.toBe.blk.calm (eos_cons (eo_name 2 B.toBe.blk.nd (by decide)) (eos_cons (eo_name 3 B.toBe.blk.nd (by decide)) eos_nil)))) (fun s H C cl fp => pts_nilA) (fun s H C cl fp => (ev_call B.toBe.blk hrec rfl (ea_cons (ev_var 2) (ea_cons (ev_var 3) ea_nil))))) ea_nil)))))))
  eb_nil)
  (eb_cons (es_if (ev_tru (ev_callB (cr_isa2 F.gfn F.isf F.cmf) rfl F.n_isinstance (by decide +kernel) (ea_cons (ev_var 1) (ea_cons (ev_bty rfl F.n_dict (by decide +kernel)) ea_nil))))
  (eb_one (es_ret (ev_and (ev_callB (cr_isa2 F.gfn F.isf F.cmf) rfl F.n_isinstance (by decide +kernel) (ea_cons (ev_var 0) (ea_cons (ev_bty rfl F.n_dict (by decide +kernel)) ea_nil))) (ev_and1 (ev_call B.toBe hrec rfl (ea_cons (ev_listItems B.toBe.calm (ev_var 0) rfl F.n_list) (ea_cons (ev_listItems B.toBe.calm (ev_var 1) rfl F.n_list) ea_nil)))))))
  eb_nil)
  (eb_cons (es_if (et_w (et_or (ev_tru (ev_callB (cr_isa2 F.gfn F.isf F.cmf) rfl F.n_isinstance (by decide +kernel) (ea_cons (ev_var 1) (ea_cons (ev_bty rfl F.n_bool (by decide +kernel)) ea_nil)))) (et_or1 (ev_tru (ev_callB (cr_isa2 F.gfn F.isf F.cmf) rfl F.n_isinstance (by decide +kernel) (ea_cons (ev_var 0) (ea_cons (ev_bty rfl F.n_bool (by decide +kernel)) ea_nil)))))))
  (eb_one (es_ret (ev_and (ev_callB (cr_isa2 F.gfn F.isf F.cmf) rfl F.n_isinstance (by decide +kernel) (ea_cons (ev_var 1) (ea_cons (ev_bty rfl F.n_bool (by decide +kernel)) ea_nil))) (ev_and (ev_callB (cr_isa2 F.gfn F.isf F.cmf) rfl F.n_isinstance (by decide +kernel) (ea_cons (ev_var 0) (ea_cons (ev_bty rfl F.n_bool (by decide +kernel)) ea_nil))) (ev_and1 (ev_cmp (ok_eqX (B.toBe.toS (k := 0 + n) (by omega)) F.gfn F.isf F.cmf KnEqs.nil) (ev_var 0) (ev_var 1)))))))
  eb_nil)
  (eb_one (es_ret (ev_and (ev_not (ev_callB (cr_isa2 F.gfn F.isf F.cmf) rfl F.n_isinstance (by decide +kernel) (ea_cons (ev_var 0) (ea_cons (ev_tup (ea_cons (ev_bty rfl F.n_list (by decide +kernel)) (ea_cons (ev_bty rfl F.n_tuple (by decide +kernel)) (ea_cons (ev_bty rfl F.n_dict (by decide +kernel)) ea_nil)))) ea_nil)))) (ev_and1 (ev_cmp (ok_eqX (B.toBe.toS (k := 0 + n) (by omega)) F.gfn F.isf F.cmf KnEqs.nil) (ev_var 0) (ev_var 1)))))))))
theorem fg_law_same (F : Fc P w K mg base cs) (hT : Tb.T = tabT cs qs) {n : Nat} (hrec : Kn ⟨K, mg, P, w, base, Tb.T⟩ (1 + n) "_law_same" 2 (f_law_same n)) : ∃ fd, FunD K "_law_same" "_law_same" (defArgs s_law_same) (defBody s_law_same) (defScope s_law_same) [] [] (He.ga K "_law_same") fd ∧ FnG ⟨K, mg, P, w, base, Tb.T⟩ (1 + n + 1) (He.ga K "_law_same") fd ["_law_found", "_law_due"] (spF ⟨K, mg, P, w, base, Tb.T⟩ 2 (f_law_same (n + 1))) := by
  obtain ⟨fd, D⟩ := F.d_law_same
  exact ⟨fd, D, fn_ok (N := ["_law_found", "_law_due", "_law_mine", "_law_theirs"]) D ⟨rfl, rfl, rfl, by decide +kernel, rfl, by decide +kernel, by decide +kernel⟩ rfl rfl fun cdv A outer s H E e B => ev_law_same F hrec hT B⟩
theorem kn_law_same (F : Fc P w K mg base cs) (hT : Tb.T = tabT cs qs) : ∀ n : Nat, Kn ⟨K, mg, P, w, base, Tb.T⟩ (1 + n) "_law_same" 2 (f_law_same n)
  | 0 => by
    obtain ⟨fd, D⟩ := F.d_law_same
    exact kn_bad (ps := ["_law_found", "_law_due"]) F.g_law_same D (fun _ _ _ _ _ _ us hl => match us, hl with | [_, _], _ => rfl)
  | n + 1 => by
    obtain ⟨fd, D, h⟩ := fg_law_same F hT (kn_law_same F hT n)
    exact kn_of F.g_law_same D (fun _ _ _ _ _ _ us hl => match us, hl with | [_, _], _ => rfl) h
theorem ev_law_loose (F : Fc P w K mg base cs) {f : Addr} {cdv : Value} {A : Around} {outer : List Env} {s : Shared} {H : Hp} {E : XK} {n : Nat} {rc : List SV → AH → R AV} (hrec : Kn ⟨K, mg, P, w, base, Tb.T⟩ (2 + n) "_law_loose" 2 rc) (hT : Tb.T = tabT cs qs) (B : Bd (cxOf (L2.CX P w) P w K mg base ["_law_stream_here", "_law_thing", "_law_some", "_law_one"] "_law_loose" (defScope s_law_loose) f cdv A outer s H E) (WR E) (2 + n)) : EvB (cxOf (L2.CX P w) P w K mg base ["_law_stream_here", "_law_thing", "_law_some", "_law_one"] "_law_loose" (defScope s_law_loose) f cdv A outer s H E) (WR E) (defBody s_law_loose) (c_law_loose n rc) := 
  (eb_cons (es_if (ev_tru (ev_callB (cr_isa2 F.gfn F.isf F.cmf) rfl F.n_isinstance (by decide +kernel) (ea_cons (ev_var 1) (ea_cons (ev_tup (ea_cons (ev_bty rfl F.n_list (by decide +kernel)) (ea_cons (ev_bty rfl F.n_tuple (by decide +kernel)) ea_nil))) ea_nil))))
  (eb_cons (es_setLc 2 B.toBe (ei_val (ev_var 1)) (blkOk_by (own := [("_law_one", 3)]) (by kernel_rfl)) (fun s H C cl fp => (eo_name 3 B.toBe.blk.nd (by decide))) (fun s H C cl fp => pts_nilA) (fun s H C cl fp => (ev_call B.toBe.blk hrec rfl (ea_cons (ev_var 0) (ea_cons (ev_var 3) ea_nil)))))
  (eb_one (es_ret (ev_if (et_cmp (ok_eq B.toBe.u64) (ev_call B.toBe ((kn_law_draw F hT).mono (by omega)) rfl (ea_cons (ev_var 0) (ea_cons ev_int ea_nil))) ev_int) (ev_var 2) (ev_callTy cr_tuple rfl F.n_tuple (by decide +kernel) (ea_cons (ev_var 2) ea_nil))))))
  eb_nil)
  (eb_one (es_ret (ev_var 1))))
theorem fg_law_loose (F : Fc P w K mg base cs) (hT : Tb.T = tabT cs qs) {n : Nat} (hrec : Kn ⟨K, mg, P, w, base, Tb.T⟩ (2 + n) "_law_loose" 2 (f_law_loose n)) : ∃ fd, FunD K "_law_loose" "_law_loose" (defArgs s_law_loose) (defBody s_law_loose) (defScope s_law_loose) [] [] (He.ga K "_law_loose") fd ∧ FnG ⟨K, mg, P, w, base, Tb.T⟩ (2 + n + 1) (He.ga K "_law_loose") fd ["_law_stream_here", "_law_thing"] (spF ⟨K, mg, P, w, base, Tb.T⟩ 2 (f_law_loose (n + 1))) := by
  obtain ⟨fd, D⟩ := F.d_law_loose
  exact ⟨fd, D, fn_ok (N := ["_law_stream_here", "_law_thing", "_law_some", "_law_one"]) D ⟨rfl, rfl, rfl, by decide +kernel, rfl, by decide +kernel, by decide +kernel⟩ rfl rfl fun cdv A outer s H E e B => ev_law_loose F hrec hT B⟩
theorem kn_law_loose (F : Fc P w K mg base cs) (hT : Tb.T = tabT cs qs) : ∀ n : Nat, Kn ⟨K, mg, P, w, base, Tb.T⟩ (2 + n) "_law_loose" 2 (f_law_loose n)
  | 0 => by
    obtain ⟨fd, D⟩ := F.d_law_loose
    exact kn_bad (ps := ["_law_stream_here", "_law_thing"]) F.g_law_loose D (fun _ _ _ _ _ _ us hl => match us, hl with | [_, _], _ => rfl)
  | n + 1 => by
    obtain ⟨fd, D, h⟩ := fg_law_loose F hT (kn_law_loose F hT n)
    exact kn_of F.g_law_loose D (fun _ _ _ _ _ _ us hl => match us, hl with | [_, _], _ => rfl) h
theorem ev_law_amounts (F : Fc P w K mg base cs) {f : Addr} {cdv : Value} {A : Around} {outer : List Env} {s : Shared} {H : Hp} {E : XK} (hT : Tb.T = tabT cs qs) (B : Bd (cxOf (L2.CX P w) P w K mg base ["_law_stream_here", "_law_way"] "_law_amounts" (defScope s_law_amounts) f cdv A outer s H E) (WR E) 3) : EvB (cxOf (L2.CX P w) P w K mg base ["_law_stream_here", "_law_way"] "_law_amounts" (defScope s_law_amounts) f cdv A outer s H E) (WR E) (defBody s_law_amounts) c_law_amounts := 
  (eb_cons (es_if (et_cmp (ok_eq B.toBe.u64) (ev_var 1) ev_int)
  (eb_one (es_ret (ev_tup (ea_cons (ev_call B.toBe ((kn_law_draw F hT).mono (by decide)) rfl (ea_cons (ev_var 0) (ea_cons ev_int ea_nil))) (ea_cons (ev_call B.toBe ((kn_law_draw F hT).mono (by decide)) rfl (ea_cons (ev_var 0) (ea_cons ev_int ea_nil))) ea_nil)))))
  eb_nil)
  (eb_cons (es_if (et_cmp (ok_eq B.toBe.u64) (ev_var 1) ev_int)
  (eb_one (es_ret (ev_tup (ea_cons (ev_bin ok_sub (ev_call B.toBe ((kn_law_draw F hT).mono (by decide)) rfl (ea_cons (ev_var 0) (ea_cons ev_int ea_nil))) ev_int) (ea_cons (ev_bin ok_sub (ev_call B.toBe ((kn_law_draw F hT).mono (by decide)) rfl (ea_cons (ev_var 0) (ea_cons ev_int ea_nil))) ev_int) ea_nil)))))
  eb_nil)
  (eb_cons (es_if (et_cmp (ok_eq B.toBe.u64) (ev_var 1) ev_int)
  (eb_one (es_ret (ev_tup (ea_cons (ev_bin ok_sub (ev_call B.toBe ((kn_law_draw F hT).mono (by decide)) rfl (ea_cons (ev_var 0) (ea_cons ev_int ea_nil))) ev_int) (ea_cons (ev_bin ok_sub (ev_call B.toBe ((kn_law_draw F hT).mono (by decide)) rfl (ea_cons (ev_var 0) (ea_cons ev_int ea_nil))) ev_int) ea_nil)))))
  eb_nil)
  (eb_one (es_ret (ev_tup (ea_cons (ev_call B.toBe ((kn_law_pick F hT).mono (by decide)) rfl (ea_cons (ev_var 0) (ea_cons (ev_lst (ea_cons ev_int (ea_cons ev_int (ea_cons ev_int (ea_cons ev_int (ea_cons ev_int ea_nil)))))) ea_nil))) (ea_cons (ev_call B.toBe ((kn_law_pick F hT).mono (by decide)) rfl (ea_cons (ev_var 0) (ea_cons (ev_lst (ea_cons ev_int (ea_cons ev_int (ea_cons ev_int (ea_cons ev_int (ea_cons ev_int ea_nil)))))) ea_nil))) ea_nil))))))))
theorem fg_law_amounts (F : Fc P w K mg base cs) (hT : Tb.T = tabT cs qs) : ∃ fd, FunD K "_law_amounts" "_law_amounts" (defArgs s_law_amounts) (defBody s_law_amounts) (defScope s_law_amounts) [] [] (He.ga K "_law_amounts") fd ∧ FnG ⟨K, mg, P, w, base, Tb.T⟩ 4 (He.ga K "_law_amounts") fd ["_law_stream_here", "_law_way"] (spF ⟨K, mg, P, w, base, Tb.T⟩ 2 f_law_amounts) := by
  obtain ⟨fd, D⟩ := F.d_law_amounts
  exact ⟨fd, D, fn_ok (N := ["_law_stream_here", "_law_way"]) D ⟨rfl, rfl, rfl, by decide +kernel, rfl, by decide +kernel, by decide +kernel⟩ rfl rfl fun cdv A outer s H E e B => ev_law_amounts F hT B⟩
theorem kn_law_amounts (F : Fc P w K mg base cs) (hT : Tb.T = tabT cs qs) : Kn ⟨K, mg, P, w, base, Tb.T⟩ 4 "_law_amounts" 2 f_law_amounts := by
  obtain ⟨fd, D, h⟩ := fg_law_amounts F hT
  exact kn_of F.g_law_amounts D (fun _ _ _ _ _ _ us hl => match us, hl with | [_, _], _ => rfl) h
theorem ev_law_step (F : Fc P w K mg base cs) {f : Addr} {cdv : Value} {A : Around} {outer : List Env} {s : Shared} {H : Hp} {E : XK} (hT : Tb.T = tabT cs qs) (B : Bd (cxOf (L2.CX P w) P w K mg base ["_law_stream_here", "_law_one", "_law_other", "_law_way", "_law_ticks", "_law_change"] "_law_step" (defScope s_law_step) f cdv A outer s H E) (WR E) 4) : EvB (cxOf (L2.CX P w) P w K mg base ["_law_stream_here", "_law_one", "_law_other", "_law_way", "_law_ticks", "_law_change"] "_law_step" (defScope s_law_step) f cdv A outer s H E) (WR E) (defBody s_law_step) c_law_step := 
  (eb_cons (es_set 4 B.toBe.nd (ev_bin ok_add ev_int (ev_call B.toBe ((kn_law_draw F hT).mono (by decide)) rfl (ea_cons (ev_var 0) (ea_cons (ev_call B.toBe ((kn_law_pick F hT).mono (by decide)) rfl (ea_cons (ev_var 0) (ea_cons (ev_lst (ea_cons ev_int (ea_cons ev_int (ea_cons ev_int ea_nil)))) ea_nil))) ea_nil)))))
  (eb_cons (es_set 5 B.toBe.nd (ev_call B.toBe ((kn_law_pick F hT).mono (by decide)) rfl (ea_cons (ev_var 0) (ea_cons (ev_lst (ea_cons ev_int (ea_cons ev_int (ea_cons ev_int (ea_cons (ev_un ok_neg ev_int) (ea_cons ev_int (ea_cons (ev_un ok_neg ev_int) (ea_cons ev_int (ea_cons (ev_un ok_neg ev_int) (ea_cons ev_int ea_nil)))))))))) ea_nil))))
  (eb_one (es_ret (ev_tup (ea_cons (ev_var 1) (ea_cons (ev_var 2) (ea_cons (ev_call B.toBe ((kn_law_amounts F hT).mono (by decide)) rfl (ea_cons (ev_var 0) (ea_cons (ev_var 3) ea_nil))) (ea_cons (ev_var 4) (ea_cons (ev_var 5) ea_nil))))))))))
theorem fg_law_step (F : Fc P w K mg base cs) (hT : Tb.T = tabT cs qs) : ∃ fd, FunD K "_law_step" "_law_step" (defArgs s_law_step) (defBody s_law_step) (defScope s_law_step) [] [] (He.ga K "_law_step") fd ∧ FnG ⟨K, mg, P, w, base, Tb.T⟩ 5 (He.ga K "_law_step") fd ["_law_stream_here", "_law_one", "_law_other", "_law_way"] (spF ⟨K, mg, P, w, base, Tb.T⟩ 4 f_law_step) := by
  obtain ⟨fd, D⟩ := F.d_law_step
  exact ⟨fd, D, fn_ok (N := ["_law_stream_here", "_law_one", "_law_other", "_law_way", "_law_ticks", "_law_change"]) D ⟨rfl, rfl, rfl, by decide +kernel, rfl, by decide +kernel, by decide +kernel⟩ rfl rfl fun cdv A outer s H E e B => ev_law_step F hT B⟩
theorem kn_law_step (F : Fc P w K mg base cs) (hT : Tb.T = tabT cs qs) : Kn ⟨K, mg, P, w, base, Tb.T⟩ 5 "_law_step" 4 f_law_step := by
  obtain ⟨fd, D, h⟩ := fg_law_step F hT
  exact kn_of F.g_law_step D (fun _ _ _ _ _ _ us hl => match us, hl with | [_, _, _, _], _ => rfl) h
theorem ev_law_web (F : Fc P w K mg base cs) {f : Addr} {cdv : Value} {A : Around} {outer : List Env} {s : Shared} {H : Hp} {E : XK} (hT : Tb.T = tabT cs qs) (B : Bd (cxOf (L2.CX P w) P w K mg base ["_law_stream_here", "_law_most", "_law_many", "_law_places", "_law_way", "_law_found", "_law_ring", "_law_at", "_law_place", "_law_k", "_law_step_here"] "_law_web" (defScope s_law_web) f cdv A outer s H E) (WR E) 5) : EvB (cxOf (L2.CX P w) P w K mg base ["_law_stream_here", "_law_most", "_law_many", "_law_places", "_law_way", "_law_found", "_law_ring", "_law_at", "_law_place", "_law_k", "_law_step_here"] "_law_web" (defScope s_law_web) f cdv A outer s H E) (WR E) (defBody s_law_web) c_law_web := 
  (eb_cons (es_asg (ev_tup (ea_cons (ev_bin ok_add ev_int (ev_call B.toBe ((kn_law_draw F hT).mono (by decide)) rfl (ea_cons (ev_var 0) (ea_cons (ev_var 1) ea_nil)))) (ea_cons (ev_call B.toBe ((kn_law_draw F hT).mono (by decide)) rfl (ea_cons (ev_var 0) (ea_cons ev_int ea_nil))) (ea_cons (ev_lst ea_nil) (ea_cons (ev_lst ea_nil) ea_nil))))) (eg_tup B.toBe.calm (egs_cons (eg_name 3 B.toBe.nd) (egs_cons (eg_name 4 B.toBe.nd) (egs_cons (eg_name 5 B.toBe.nd) (egs_cons (eg_name 6 B.toBe.nd) egs_nil))))))
  (eb_cons (es_if (et_cmp ok_gt (ev_call B.toBe ((kn_law_draw F hT).mono (by decide)) rfl (ea_cons (ev_var 0) (ea_cons ev_int ea_nil))) ev_int)
  (eb_one (es_set 6 B.toBe.nd (ev_slice (ev_call B.toBe ((kn_law_mixed F hT).mono (by decide)) rfl (ea_cons (ev_var 0) (ea_cons (ev_listRg1 B.toBe.calm rfl F.n_list rfl F.n_range (ev_var 3)) ea_nil))) eo_none (eo_some (ev_bin ok_add ev_int (ev_call B.toBe ((kn_law_draw F hT).mono (by decide)) rfl (ea_cons (ev_var 0) (ea_cons (ev_var 3) ea_nil))))))))
  eb_nil)
  (eb_cons (es_for B.own B.toBe.calm (ei_enum rfl F.n_enumerate (ea_cons (ev_var 6) ea_nil)) (eg_tup B.toBe.calm (egs_cons (eg_name 7 B.toBe.nd) (egs_cons (eg_name 8 B.toBe.nd) egs_nil)))
  (eb_one (es_expr (ev_meth mf_append (ev_var 5) (ea_cons (ev_call B.toBe ((kn_law_step F hT).mono (by decide)) rfl (ea_cons (ev_var 0) (ea_cons (ev_ix (ix_all B.toBe.u64) (ev_var 6) (ev_bin ok_sub (ev_var 7) ev_int)) (ea_cons (ev_var 8) (ea_cons (ev_var 4) ea_nil))))) ea_nil)))))
  (eb_cons (es_for B.own B.toBe.calm (ei_range1 rfl F.n_range (ea_cons (ev_call B.toBe ((kn_law_draw F hT).mono (by decide)) rfl (ea_cons (ev_var 0) (ea_cons (ev_bin ok_add (ev_bin ok_sub (ev_var 2) (ev_callB cr_len rfl F.n_len (by decide +kernel) (ea_cons (ev_var 5) ea_nil))) ev_int) ea_nil))) ea_nil)) (eg_name 9 B.toBe.nd)
  (eb_cons (es_set 10 B.toBe.nd (ev_call B.toBe ((kn_law_step F hT).mono (by decide)) rfl (ea_cons (ev_var 0) (ea_cons (ev_call B.toBe ((kn_law_draw F hT).mono (by decide)) rfl (ea_cons (ev_var 0) (ea_cons (ev_var 3) ea_nil))) (ea_cons (ev_call B.toBe ((kn_law_draw F hT).mono (by decide)) rfl (ea_cons (ev_var 0) (ea_cons (ev_var 3) ea_nil))) (ea_cons (ev_var 4) ea_nil))))))
  (eb_one (es_expr (ev_meth mf_extend (ev_var 5) (ea_cons (ev_if (et_cmp (ok_NotIn B.toBe.u65) (ev_var 10) (ev_var 5)) (ev_lst (ea_cons (ev_var 10) ea_nil)) (ev_lst ea_nil)) ea_nil))))))
  (eb_one (es_ret (ev_tup (ea_cons (ev_var 3) (ea_cons (ev_call B.toBe ((kn_law_mixed F hT).mono (by decide)) rfl (ea_cons (ev_var 0) (ea_cons (ev_var 5) ea_nil))) ea_nil)))))))))
theorem fg_law_web (F : Fc P w K mg base cs) (hT : Tb.T = tabT cs qs) : ∃ fd, FunD K "_law_web" "_law_web" (defArgs s_law_web) (defBody s_law_web) (defScope s_law_web) [] [] (He.ga K "_law_web") fd ∧ FnG ⟨K, mg, P, w, base, Tb.T⟩ 6 (He.ga K "_law_web") fd ["_law_stream_here", "_law_most", "_law_many"] (spF ⟨K, mg, P, w, base, Tb.T⟩ 3 f_law_web) := by
  obtain ⟨fd, D⟩ := F.d_law_web
  exact ⟨fd, D, fn_ok (N := ["_law_stream_here", "_law_most", "_law_many", "_law_places", "_law_way", "_law_found", "_law_ring", "_law_at", "_law_place", "_law_k", "_law_step_here"]) D ⟨rfl, rfl, rfl, by decide +kernel, rfl, by decide +kernel, by decide +kernel⟩ rfl rfl fun cdv A outer s H E e B => ev_law_web F hT B⟩
theorem kn_law_web (F : Fc P w K mg base cs) (hT : Tb.T = tabT cs qs) : Kn ⟨K, mg, P, w, base, Tb.T⟩ 6 "_law_web" 3 f_law_web := by
  obtain ⟨fd, D, h⟩ := fg_law_web F hT
  exact kn_of F.g_law_web D (fun _ _ _ _ _ _ us hl => match us, hl with | [_, _, _], _ => rfl) h
theorem ev_law_tried (F : Fc P w K mg base cs) {f : Addr} {cdv : Value} {A : Around} {outer : List Env} {s : Shared} {H : Hp} {E : XK} (hT : Tb.T = tabT cs qs) (B : Bd (cxOf (L2.CX P w) P w K mg base ["_law_ask", "e"] "_law_tried" (defScope s_law_tried) f cdv A outer s H E) (WR E) 36) : EvB (cxOf (L2.CX P w) P w K mg base ["_law_ask", "e"] "_law_tried" (defScope s_law_tried) f cdv A outer s H E) (WR E) (defBody s_law_tried) c_law_tried := 
  (eb_one (es_try B F.em (fun W' pn xe B => (eb_one (es_ret (ev_tup (ea_cons ev_str (ea_cons (ev_clo0 0 B.toBe) ea_nil)))))) (.as_ rfl (by decide +kernel) F.g_BadPlaces (i := 1) rfl rfl (fun a pn => (eb_one (es_ret (ev_tup (ea_cons ev_str (ea_cons (ev_exf 1 F.xf_BadPlaces_places) ea_nil)))))) (.as_ rfl (by decide +kernel) F.g_BadSteps (i := 1) rfl rfl (fun a pn => (eb_one (es_ret (ev_tup (ea_cons ev_str (ea_cons (ev_exf 1 F.xf_BadSteps_index) ea_nil)))))) .nil))))
theorem fg_law_tried (F : Fc P w K mg base cs) (hT : Tb.T = tabT cs qs) : ∃ fd, FunD K "_law_tried" "_law_tried" (defArgs s_law_tried) (defBody s_law_tried) (defScope s_law_tried) [] [] (He.ga K "_law_tried") fd ∧ FnG ⟨K, mg, P, w, base, Tb.T⟩ 37 (He.ga K "_law_tried") fd ["_law_ask"] (spF ⟨K, mg, P, w, base, Tb.T⟩ 1 f_law_tried) := by
  obtain ⟨fd, D⟩ := F.d_law_tried
  exact ⟨fd, D, fn_ok (N := ["_law_ask", "e"]) D ⟨rfl, rfl, rfl, by decide +kernel, rfl, by decide +kernel, by decide +kernel⟩ rfl rfl fun cdv A outer s H E e B => ev_law_tried F hT B⟩
theorem kn_law_tried (F : Fc P w K mg base cs) (hT : Tb.T = tabT cs qs) : Kn ⟨K, mg, P, w, base, Tb.T⟩ 37 "_law_tried" 1 f_law_tried := by
  obtain ⟨fd, D, h⟩ := fg_law_tried F hT
  exact kn_of F.g_law_tried D (fun _ _ _ _ _ _ us hl => match us, hl with | [_], _ => rfl) h
theorem ev_law_odd_steps (F : Fc P w K mg base cs) {f : Addr} {cdv : Value} {A : Around} {outer : List Env} {s : Shared} {H : Hp} {E : XK} (hT : Tb.T = tabT cs qs) (B : Bd (cxOf (L2.CX P w) P w K mg base ["_law_places", "_law_step_here", "_law_one", "_law_other", "_law_amounts_here", "_law_ticks", "_law_change", "_law_found", "_law_odd"] "_law_odd_steps" (defScope s_law_odd_steps) f cdv A outer s H E) (WR E) 1) : EvB (cxOf (L2.CX P w) P w K mg base ["_law_places", "_law_step_here", "_law_one", "_law_other", "_law_amounts_here", "_law_ticks", "_law_change", "_law_found", "_law_odd"] "_law_odd_steps" (defScope s_law_odd_steps) f cdv A outer s H E) (WR E) (defBody s_law_odd_steps) c_law_odd_steps := 
  (eb_cons (es_asg (ev_var 1) (eg_tup B.toBe.calm (egs_cons (eg_name 2 B.toBe.nd) (egs_cons (eg_name 3 B.toBe.nd) (egs_cons (eg_name 4 B.toBe.nd) (egs_cons (eg_name 5 B.toBe.nd) (egs_cons (eg_name 6 B.toBe.nd) egs_nil)))))))
  (eb_cons (es_set 7 B.toBe.nd (ev_lst (ea_cons ev_non (ea_cons ev_int (ea_cons ev_str (ea_cons (ev_tup ea_nil) (ea_cons ev_newD (ea_cons (ev_slice (ev_var 1) eo_none (eo_some ev_int)) (ea_cons (ev_bin ok_add (ev_var 1) (ev_tup (ea_cons ev_int ea_nil))) (ea_cons ev_bl (ea_cons (ev_glo (x := "_law_draw") rfl F.g_law_draw) (ea_cons (ev_tup (ea_cons (ev_var 0) (ea_cons (ev_var 3) (ea_cons (ev_var 4) (ea_cons (ev_var 5) (ea_cons (ev_var 6) ea_nil)))))) ea_nil))))))))))))
  (eb_cons (es_expr (ev_meth mf_extend (ev_var 7) (ea_cons (ev_lc B.toBe (ei_val (ev_lst (ea_cons (ev_un ok_neg ev_int) (ea_cons ev_non (ea_cons ev_bl (ea_cons ev_str (ea_cons (ev_tup (ea_cons ev_int ea_nil)) (ea_cons (ev_glo (x := "_law_draw") rfl F.g_law_draw) ea_nil)))))))) (blkOk_by (own := [("_law_odd", 8)]) (by kernel_rfl)) (fun s H C cl fp => (eo_name 8 B.toBe.blk.nd (by decide))) (fun s H C cl fp => pts_nilA) (fun s H C cl fp => (ev_tup (ea_cons (ev_var 8) (ea_cons (ev_var 3) (ea_cons (ev_var 4) (ea_cons (ev_var 5) (ea_cons (ev_var 6) ea_nil)))))))) ea_nil)))
  (eb_cons (es_expr (ev_meth mf_extend (ev_var 7) (ea_cons (ev_lc B.toBe (ei_val (ev_lst (ea_cons (ev_un ok_neg ev_int) (ea_cons (ev_var 0) (ea_cons ev_non (ea_cons ev_bl (ea_cons ev_str (ea_cons (ev_lst (ea_cons ev_int ea_nil)) ea_nil)))))))) (blkOk_by (own := [("_law_odd", 8)]) (by kernel_rfl)) (fun s H C cl fp => (eo_name 8 B.toBe.blk.nd (by decide))) (fun s H C cl fp => pts_nilA) (fun s H C cl fp => (ev_tup (ea_cons (ev_var 2) (ea_cons (ev_var 8) (ea_cons (ev_var 4) (ea_cons (ev_var 5) (ea_cons (ev_var 6) ea_nil)))))))) ea_nil)))
  (eb_cons (es_for B.own B.toBe.calm (ei_val (ev_lst (ea_cons ev_non (ea_cons ev_int (ea_cons (ev_tup (ea_cons ev_int ea_nil)) (ea_cons (ev_tup (ea_cons ev_int (ea_cons ev_int (ea_cons ev_int ea_nil)))) (ea_cons (ev_tup (ea_cons ev_bl (ea_cons ev_int ea_nil))) (ea_cons (ev_tup (ea_cons ev_int (ea_cons ev_non ea_nil))) (ea_cons ev_str (ea_cons ev_newD ea_nil)))))))))) (eg_name 8 B.toBe.nd)
  (eb_one (es_expr (ev_meth mf_append (ev_var 7) (ea_cons (ev_tup (ea_cons (ev_var 2) (ea_cons (ev_var 3) (ea_cons (ev_var 8) (ea_cons (ev_var 5) (ea_cons (ev_var 6) ea_nil)))))) ea_nil)))))
  (eb_cons (es_expr (ev_meth mf_extend (ev_var 7) (ea_cons (ev_lc B.toBe (ei_val (ev_lst (ea_cons ev_int (ea_cons (ev_un ok_neg ev_int) (ea_cons ev_non (ea_cons ev_bl (ea_cons ev_str (ea_cons (ev_tup (ea_cons ev_int ea_nil)) ea_nil)))))))) (blkOk_by (own := [("_law_odd", 8)]) (by kernel_rfl)) (fun s H C cl fp => (eo_name 8 B.toBe.blk.nd (by decide))) (fun s H C cl fp => pts_nilA) (fun s H C cl fp => (ev_tup (ea_cons (ev_var 2) (ea_cons (ev_var 3) (ea_cons (ev_var 4) (ea_cons (ev_var 8) (ea_cons (ev_var 6) ea_nil)))))))) ea_nil)))
  (eb_one (es_ret (ev_bin ok_add (ev_var 7) (ev_lc B.toBe (ei_val (ev_lst (ea_cons ev_non (ea_cons ev_bl (ea_cons ev_str (ea_cons (ev_tup (ea_cons ev_int ea_nil)) (ea_cons (ev_lst ea_nil) (ea_cons (ev_glo (x := "_law_draw") rfl F.g_law_draw) ea_nil)))))))) (blkOk_by (own := [("_law_odd", 8)]) (by kernel_rfl)) (fun s H C cl fp => (eo_name 8 B.toBe.blk.nd (by decide))) (fun s H C cl fp => pts_nilA) (fun s H C cl fp => (ev_tup (ea_cons (ev_var 2) (ea_cons (ev_var 3) (ea_cons (ev_var 4) (ea_cons (ev_var 5) (ea_cons (ev_var 8) ea_nil)))))))))))))))))
theorem fg_law_odd_steps (F : Fc P w K mg base cs) (hT : Tb.T = tabT cs qs) : ∃ fd, FunD K "_law_odd_steps" "_law_odd_steps" (defArgs s_law_odd_steps) (defBody s_law_odd_steps) (defScope s_law_odd_steps) [] [] (He.ga K "_law_odd_steps") fd ∧ FnG ⟨K, mg, P, w, base, Tb.T⟩ 2 (He.ga K "_law_odd_steps") fd ["_law_places", "_law_step_here"] (spF ⟨K, mg, P, w, base, Tb.T⟩ 2 f_law_odd_steps) := by
  obtain ⟨fd, D⟩ := F.d_law_odd_steps
  exact ⟨fd, D, fn_ok (N := ["_law_places", "_law_step_here", "_law_one", "_law_other", "_law_amounts_here", "_law_ticks", "_law_change", "_law_found", "_law_odd"]) D ⟨rfl, rfl, rfl, by decide +kernel, rfl, by decide +kernel, by decide +kernel⟩ rfl rfl fun cdv A outer s H E e B => ev_law_odd_steps F hT B⟩
theorem kn_law_odd_steps (F : Fc P w K mg base cs) (hT : Tb.T = tabT cs qs) : Kn ⟨K, mg, P, w, base, Tb.T⟩ 2 "_law_odd_steps" 2 f_law_odd_steps := by
  obtain ⟨fd, D, h⟩ := fg_law_odd_steps F hT
  exact kn_of F.g_law_odd_steps D (fun _ _ _ _ _ _ us hl => match us, hl with | [_, _], _ => rfl) h
theorem ev_law_made_right (F : Fc P w K mg base cs) {f : Addr} {cdv : Value} {A : Around} {outer : List Env} {s : Shared} {H : Hp} {E : XK} (hT : Tb.T = tabT cs qs) (B : Bd (cxOf (L2.CX P w) P w K mg base ["_law_stream_here", "_law_places", "_law_steps", "_law_handed", "_law_step_here", "_law_made", "_law_due", "_law_twin", "_law_lists"] "_law_made_right" (defScope s_law_made_right) f cdv A outer s H E) (WR E) 35) : EvB (cxOf (L2.CX P w) P w K mg base ["_law_stream_here", "_law_places", "_law_steps", "_law_handed", "_law_step_here", "_law_made", "_law_due", "_law_twin", "_law_lists"] "_law_made_right" (defScope s_law_made_right) f cdv A outer s H E) (WR E) (defBody s_law_made_right) c_law_made_right := 
  (eb_cons (es_setLc 3 B.toBe (ei_val (ev_var 2)) (blkOk_by (own := [("_law_step_here", 4)]) (by kernel_rfl)) (fun s H C cl fp => (eo_name 4 B.toBe.blk.nd (by decide))) (fun s H C cl fp => pts_nilA) (fun s H C cl fp => (ev_call B.toBe.blk ((kn_law_loose F hT 30).mono (by decide)) rfl (ea_cons (ev_var 0) (ea_cons (ev_var 4) ea_nil)))))
  (eb_cons (es_set 5 B.toBe.nd (ev_make B.toBe ((kni_Web F hT).mono (by decide)) rfl (ea_cons (ev_var 1) (ea_cons (ev_call B.toBe ((kn_law_pick F hT).mono (by decide)) rfl (ea_cons (ev_var 0) (ea_cons (ev_lst (ea_cons (ev_var 3) (ea_cons (ev_callTy cr_tuple rfl F.n_tuple (by decide +kernel) (ea_cons (ev_var 3) ea_nil)) ea_nil))) ea_nil))) ea_nil))))
  (eb_cons (es_expr (ev_meth mf_append (ev_var 3) (ea_cons ev_non ea_nil)))
  (eb_cons (es_set 6 B.toBe.nd (ev_lst (ea_cons (ev_var 1) (ea_cons (ev_callB (cr_sorted B.toBe) rfl F.n_sorted (by decide +kernel) (ea_cons (ev_var 2) ea_nil)) ea_nil))))
  (eb_cons (es_if (et_not (ev_tru (ev_call B.toBe ((kn_law_same F hT 30).mono (by decide)) rfl (ea_cons (ev_lst (ea_cons (ev_methO0 B.toBe ((knm_Web_places F hT).mono (by decide)) (ev_var 5)) (ea_cons (ev_methO0 B.toBe ((knm_Web_steps F hT).mono (by decide)) (ev_var 5)) ea_nil))) (ea_cons (ev_var 6) ea_nil)))))
  (eb_one (es_ret ev_bl))
  eb_nil)
  (eb_cons (es_expr (ev_meth mf_append (ev_methO0 B.toBe ((knm_Web_steps F hT).mono (by decide)) (ev_var 5)) (ea_cons ev_str ea_nil)))
  (eb_cons (es_set 7 B.toBe.nd (ev_makeK0 B.toBe ((kniw_Web_steps_places F hT).mono (by decide)) rfl (ek_cons (ev_call B.toBe ((kn_law_mixed F hT).mono (by decide)) rfl (ea_cons (ev_var 0) (ea_cons (ev_var 2) ea_nil))) (ek_cons (ev_var 1) ek_nil))))
  (eb_cons (es_if (et_w (et_or (et_not (ev_tru (ev_call B.toBe ((kn_law_same F hT 30).mono (by decide)) rfl (ea_cons (ev_lst (ea_cons (ev_methO0 B.toBe ((knm_Web_places F hT).mono (by decide)) (ev_var 5)) (ea_cons (ev_methO0 B.toBe ((knm_Web_steps F hT).mono (by decide)) (ev_var 5)) ea_nil))) (ea_cons (ev_var 6) ea_nil))))) (et_or1 (et_not (et_cmp (ok_eqX B.toBe F.gfn F.isf F.cmf (KnEqs.cons ((kneq_Web F hT).mono (by decide)) KnEqs.nil)) (ev_var 5) (ev_var 7))))))
  (eb_one (es_ret ev_bl))
  eb_nil)
  (eb_cons (es_setLc 8 B.toBe (ei_val (ev_var 2)) (blkOk_by (own := [("_law_step_here", 4)]) (by kernel_rfl)) (fun s H C cl fp => (eo_name 4 B.toBe.blk.nd (by decide))) (fun s H C cl fp => pts_nilA) (fun s H C cl fp => (ev_bin ok_add (ev_bin ok_add (ev_callTy cr_list rfl F.n_list (by decide +kernel) (ea_cons (ev_slice (ev_var 4) eo_none (eo_some ev_int)) ea_nil)) (ev_lst (ea_cons (ev_callTy cr_list rfl F.n_list (by decide +kernel) (ea_cons (ev_ix (ix_all B.toBe.blk.u64) (ev_var 4) ev_int) ea_nil)) ea_nil))) (ev_callTy cr_list rfl F.n_list (by decide +kernel) (ea_cons (ev_slice (ev_var 4) (eo_some ev_int) eo_none) ea_nil)))))
  (eb_cons (es_set 7 B.toBe.nd (ev_make B.toBe ((kni_Web F hT).mono (by decide)) rfl (ea_cons (ev_var 1) (ea_cons (ev_var 8) ea_nil))))
  (eb_cons (es_for B.own B.toBe.calm (ei_val (ev_var 8)) (eg_name 4 B.toBe.nd)
  (eb_cons (es_expr (ev_meth mf_append (ev_ix (ix_all B.toBe.u64) (ev_var 4) ev_int) (ea_cons ev_int ea_nil)))
  (eb_one (es_expr (ev_meth0 mf_clear (ev_var 4))))))
  (eb_one (es_ret (ev_and (ev_call B.toBe ((kn_law_same F hT 30).mono (by decide)) rfl (ea_cons (ev_methO0 B.toBe ((knm_Web_steps F hT).mono (by decide)) (ev_var 7)) (ea_cons (ev_ix (ix_all B.toBe.u64) (ev_var 6) ev_int) ea_nil))) (ev_and1 (ev_cmp (ok_eqX B.toBe F.gfn F.isf F.cmf (KnEqs.cons ((kneq_Web F hT).mono (by decide)) KnEqs.nil)) (ev_var 7) (ev_var 5)))))))))))))))))
theorem fg_law_made_right (F : Fc P w K mg base cs) (hT : Tb.T = tabT cs qs) : ∃ fd, FunD K "_law_made_right" "_law_made_right" (defArgs s_law_made_right) (defBody s_law_made_right) (defScope s_law_made_right) [] [] (He.ga K "_law_made_right") fd ∧ FnG ⟨K, mg, P, w, base, Tb.T⟩ 36 (He.ga K "_law_made_right") fd ["_law_stream_here", "_law_places", "_law_steps"] (spF ⟨K, mg, P, w, base, Tb.T⟩ 3 f_law_made_right) := by
  obtain ⟨fd, D⟩ := F.d_law_made_right
  exact ⟨fd, D, fn_ok (N := ["_law_stream_here", "_law_places", "_law_steps", "_law_handed", "_law_step_here", "_law_made", "_law_due", "_law_twin", "_law_lists"]) D ⟨rfl, rfl, rfl, by decide +kernel, rfl, by decide +kernel, by decide +kernel⟩ rfl rfl fun cdv A outer s H E e B => ev_law_made_right F hT B⟩
theorem kn_law_made_right (F : Fc P w K mg base cs) (hT : Tb.T = tabT cs qs) : Kn ⟨K, mg, P, w, base, Tb.T⟩ 36 "_law_made_right" 3 f_law_made_right := by
  obtain ⟨fd, D, h⟩ := fg_law_made_right F hT
  exact kn_of F.g_law_made_right D (fun _ _ _ _ _ _ us hl => match us, hl with | [_, _, _], _ => rfl) h
theorem ev_law_near (F : Fc P w K mg base cs) {f : Addr} {cdv : Value} {A : Around} {outer : List Env} {s : Shared} {H : Hp} {E : XK} (hT : Tb.T = tabT cs qs) (B : Bd (cxOf (L2.CX P w) P w K mg base ["_law_number"] "_law_near" (defScope s_law_near) f cdv A outer s H E) (WR E) 1) : EvB (cxOf (L2.CX P w) P w K mg base ["_law_number"] "_law_near" (defScope s_law_near) f cdv A outer s H E) (WR E) (defBody s_law_near) c_law_near := 
  (eb_one (es_ret (ev_if (et_cmp ok_gt (ev_var 0) (ev_un ok_neg ev_int)) (ev_bin ok_sub (ev_var 0) ev_int) (ev_bin ok_add (ev_var 0) ev_int))))
theorem fg_law_near (F : Fc P w K mg base cs) (hT : Tb.T = tabT cs qs) : ∃ fd, FunD K "_law_near" "_law_near" (defArgs s_law_near) (defBody s_law_near) (defScope s_law_near) [] [] (He.ga K "_law_near") fd ∧ FnG ⟨K, mg, P, w, base, Tb.T⟩ 2 (He.ga K "_law_near") fd ["_law_number"] (spF ⟨K, mg, P, w, base, Tb.T⟩ 1 f_law_near) := by
  obtain ⟨fd, D⟩ := F.d_law_near
  exact ⟨fd, D, fn_ok (N := ["_law_number"]) D ⟨rfl, rfl, rfl, by decide +kernel, rfl, by decide +kernel, by decide +kernel⟩ rfl rfl fun cdv A outer s H E e B => ev_law_near F hT B⟩
theorem kn_law_near (F : Fc P w K mg base cs) (hT : Tb.T = tabT cs qs) : Kn ⟨K, mg, P, w, base, Tb.T⟩ 2 "_law_near" 1 f_law_near := by
  obtain ⟨fd, D, h⟩ := fg_law_near F hT
  exact kn_of F.g_law_near D (fun _ _ _ _ _ _ us hl => match us, hl with | [_], _ => rfl) h
theorem ev_law_unlike_right (F : Fc P w K mg base cs) {f : Addr} {cdv : Value} {A : Around} {outer : List Env} {s : Shared} {H : Hp} {E : XK} (hT : Tb.T = tabT cs qs) (B : Bd (cxOf (L2.CX P w) P w K mg base ["_law_stream_here", "_law_places", "_law_steps", "_law_made", "_law_others", "_law_one", "_law_other", "_law_amounts_here", "_law_ticks", "_law_change", "_law_rest", "_law_step_here", "_law_near_here"] "_law_unlike_right" (defScope s_law_unlike_right) f cdv A outer s H E) (WR E) 35) : EvB (cxOf (L2.CX P w) P w K mg base ["_law_stream_here", "_law_places", "_law_steps", "_law_made", "_law_others", "_law_one", "_law_other", "_law_amounts_here", "_law_ticks", "_law_change", "_law_rest", "_law_step_here", "_law_near_here"] "_law_unlike_right" (defScope s_law_unlike_right) f cdv A outer s H E) (WR E) (defBody s_law_unlike_right) c_law_unlike_right := 
  (eb_cons (es_set 3 B.toBe.nd (ev_make B.toBe ((kni_Web F hT).mono (by decide)) rfl (ea_cons (ev_var 1) (ea_cons (ev_var 2) ea_nil))))
  (eb_cons (es_set 4 B.toBe.nd (ev_bin ok_add (ev_lst (ea_cons ev_non (ea_cons (ev_var 2) (ea_cons (ev_var 1) (ea_cons (ev_tup (ea_cons (ev_var 1) (ea_cons (ev_var 2) ea_nil))) (ea_cons ev_str (ea_cons ev_newD ea_nil))))))) (ev_if (et_cmp ok_lt (ev_var 1) ev_int) (ev_lst (ea_cons (ev_make B.toBe ((kni_Web F hT).mono (by decide)) rfl (ea_cons (ev_bin ok_add (ev_var 1) ev_int) (ea_cons (ev_var 2) ea_nil))) ea_nil)) (ev_lst ea_nil))))
  (eb_cons (es_if (et_cmp (ok_neY B.toBe F.gfn F.fnd F.isf F.cmf (KnEqs.cons ((kneq_Web F hT).mono (by decide)) KnEqs.nil)) (ev_var 2) (ev_lst ea_nil))
  (eb_cons (es_asg (ev_call B.toBe ((kn_law_pick F hT).mono (by decide)) rfl (ea_cons (ev_var 0) (ea_cons (ev_var 2) ea_nil))) (eg_tup B.toBe.calm (egs_cons (eg_name 5 B.toBe.nd) (egs_cons (eg_name 6 B.toBe.nd) (egs_cons (eg_name 7 B.toBe.nd) (egs_cons (eg_name 8 B.toBe.nd) (egs_cons (eg_name 9 B.toBe.nd) egs_nil)))))))
  (eb_cons (es_set 10 B.toBe.nd (ev_lc B.toBe (ei_val (ev_var 2)) (blkOk_by (own := [("_law_step_here", 11)]) (by kernel_rfl)) (fun s H C cl fp => (eo_name 11 B.toBe.blk.nd (by decide))) (fun s H C cl fp => (pts_oneA (et_cmp (ok_neY B.toBe.blk F.gfn F.fnd F.isf F.cmf (KnEqs.cons ((kneq_Web F hT).mono (by decide)) KnEqs.nil)) (ev_var 11) (ev_tup (ea_cons (ev_var 5) (ea_cons (ev_var 6) (ea_cons (ev_var 7) (ea_cons (ev_var 8) (ea_cons (ev_var 9) ea_nil))))))))) (fun s H C cl fp => (ev_var 11))))
  (eb_cons (es_expr (ev_meth mf_append (ev_var 4) (ea_cons (ev_make B.toBe ((kni_Web F hT).mono (by decide)) rfl (ea_cons (ev_var 1) (ea_cons (ev_var 10) ea_nil))) ea_nil)))
  (eb_cons (es_set 12 B.toBe.nd (ev_lst (ea_cons (ev_tup (ea_cons (ev_var 5) (ea_cons (ev_var 6) (ea_cons (ev_tup (ea_cons (ev_call B.toBe ((kn_law_near F hT).mono (by decide)) rfl (ea_cons (ev_ix (ix_all B.toBe.u64) (ev_var 7) ev_int) ea_nil)) (ea_cons (ev_ix (ix_all B.toBe.u64) (ev_var 7) ev_int) ea_nil))) (ea_cons (ev_var 8) (ea_cons (ev_var 9) ea_nil)))))) ea_nil)))
  (eb_cons (es_expr (ev_meth mf_append (ev_var 12) (ea_cons (ev_tup (ea_cons (ev_var 5) (ea_cons (ev_var 6) (ea_cons (ev_tup (ea_cons (ev_ix (ix_all B.toBe.u64) (ev_var 7) ev_int) (ea_cons (ev_call B.toBe ((kn_law_near F hT).mono (by decide)) rfl (ea_cons (ev_ix (ix_all B.toBe.u64) (ev_var 7) ev_int) ea_nil)) ea_nil))) (ea_cons (ev_var 8) (ea_cons (ev_var 9) ea_nil)))))) ea_nil)))
  (eb_cons (es_expr (ev_meth mf_append (ev_var 12) (ea_cons (ev_tup (ea_cons (ev_var 5) (ea_cons (ev_var 6) (ea_cons (ev_var 7) (ea_cons (ev_if (et_cmp ok_gt (ev_var 8) ev_int) (ev_bin ok_sub (ev_var 8) ev_int) ev_int) (ea_cons (ev_var 9) ea_nil)))))) ea_nil)))
  (eb_cons (es_expr (ev_meth mf_append (ev_var 12) (ea_cons (ev_tup (ea_cons (ev_var 5) (ea_cons (ev_var 6) (ea_cons (ev_var 7) (ea_cons (ev_var 8) (ea_cons (ev_call B.toBe ((kn_law_near F hT).mono (by decide)) rfl (ea_cons (ev_var 9) ea_nil)) ea_nil)))))) ea_nil)))
  (eb_one (es_expr (ev_meth mf_extend (ev_var 4) (ea_cons (ev_lc B.toBe (ei_val (ev_var 12)) (blkOk_by (own := [("_law_step_here", 11)]) (by kernel_rfl)) (fun s H C cl fp => (eo_name 11 B.toBe.blk.nd (by decide))) (fun s H C cl fp => (pts_oneA (et_cmp (ok_NotIn B.toBe.blk.u65) (ev_var 11) (ev_var 10)))) (fun s H C cl fp => (ev_make B.toBe.blk ((kni_Web F hT).mono (by decide)) rfl (ea_cons (ev_var 1) (ea_cons (ev_bin ok_add (ev_var 10) (ev_lst (ea_cons (ev_var 11) ea_nil))) ea_nil))))) ea_nil)))))))))))
  eb_nil)
  (eb_one (es_ret (ev_and (ev_not (ev_callB (cr_anyA B.toBe.calm) rfl F.n_any (by decide +kernel) (ea_cons (ev_lc B.toBe (ei_val (ev_var 4)) (blkOk_by (own := [("_law_other", 6)]) (by kernel_rfl)) (fun s H C cl fp => (eo_name 6 B.toBe.blk.nd (by decide))) (fun s H C cl fp => pts_nilA) (fun s H C cl fp => (ev_cmp (ok_eqX B.toBe.blk F.gfn F.isf F.cmf (KnEqs.cons ((kneq_Web F hT).mono (by decide)) KnEqs.nil)) (ev_var 3) (ev_var 6)))) ea_nil))) (ev_and1 (ev_callB (cr_allA B.toBe.calm) rfl F.n_all (by decide +kernel) (ea_cons (ev_lc B.toBe (ei_val (ev_var 4)) (blkOk_by (own := [("_law_other", 6)]) (by kernel_rfl)) (fun s H C cl fp => (eo_name 6 B.toBe.blk.nd (by decide))) (fun s H C cl fp => pts_nilA) (fun s H C cl fp => (ev_cmp (ok_neY B.toBe.blk F.gfn F.fnd F.isf F.cmf (KnEqs.cons ((kneq_Web F hT).mono (by decide)) KnEqs.nil)) (ev_var 3) (ev_var 6)))) ea_nil)))))))))
theorem fg_law_unlike_right (F : Fc P w K mg base cs) (hT : Tb.T = tabT cs qs) : ∃ fd, FunD K "_law_unlike_right" "_law_unlike_right" (defArgs s_law_unlike_right) (defBody s_law_unlike_right) (defScope s_law_unlike_right) [] [] (He.ga K "_law_unlike_right") fd ∧ FnG ⟨K, mg, P, w, base, Tb.T⟩ 36 (He.ga K "_law_unlike_right") fd ["_law_stream_here", "_law_places", "_law_steps"] (spF ⟨K, mg, P, w, base, Tb.T⟩ 3 f_law_unlike_right) := by
  obtain ⟨fd, D⟩ := F.d_law_unlike_right
  exact ⟨fd, D, fn_ok (N := ["_law_stream_here", "_law_places", "_law_steps", "_law_made", "_law_others", "_law_one", "_law_other", "_law_amounts_here", "_law_ticks", "_law_change", "_law_rest", "_law_step_here", "_law_near_here"]) D ⟨rfl, rfl, rfl, by decide +kernel, rfl, by decide +kernel, by decide +kernel⟩ rfl rfl fun cdv A outer s H E e B => ev_law_unlike_right F hT B⟩
theorem kn_law_unlike_right (F : Fc P w K mg base cs) (hT : Tb.T = tabT cs qs) : Kn ⟨K, mg, P, w, base, Tb.T⟩ 36 "_law_unlike_right" 3 f_law_unlike_right := by
  obtain ⟨fd, D, h⟩ := fg_law_unlike_right F hT
  exact kn_of F.g_law_unlike_right D (fun _ _ _ _ _ _ us hl => match us, hl with | [_, _, _], _ => rfl) h
theorem ev_law_refused_right (F : Fc P w K mg base cs) {f : Addr} {cdv : Value} {A : Around} {outer : List Env} {s : Shared} {H : Hp} {E : XK} {fd : FuncData} (hl : ∃ c P, cs[1]? = some (c, P) ∧ cdv = .ref c ∧ LamX.TabB base mg c P) (hT : Tb.T = tabT cs qs) (B : Bd (cxOf (L2.CX P w) P w K mg base ["_law_stream_here", "_law_places", "_law_steps", "_law_step_here", "_law_at", "_law_odd", "_law_bad", "_law_held", "_law_found"] "_law_refused_right" (defScope s_law_refused_right) f cdv A outer s H E) (WR E) 37) : EvB (cxOf (L2.CX P w) P w K mg base ["_law_stream_here", "_law_places", "_law_steps", "_law_step_here", "_law_at", "_law_odd", "_law_bad", "_law_held", "_law_found"] "_law_refused_right" (defScope s_law_refused_right) f cdv A outer s H E) (WR E) (defBody s_law_refused_right) c_law_refused_right := by
  obtain ⟨c0, P0, hc0, e0, tb0⟩ := hl
  have LM : LmOk (cxOf (L2.CX P w) P w K mg base ["_law_stream_here", "_law_places", "_law_steps", "_law_step_here", "_law_at", "_law_odd", "_law_bad", "_law_held", "_law_found"] "_law_refused_right" (defScope s_law_refused_right) f cdv A outer s H E) := lm_ok (i := 1) hT F.nd hc0 rfl e0 tb0
  exact (eb_cons (es_set 3 B.toBe.nd (ev_call B.toBe ((kn_law_pick F hT).mono (by decide)) rfl (ea_cons (ev_var 0) (ea_cons (ev_bin ok_add (ev_var 2) (ev_lst (ea_cons (ev_tup (ea_cons ev_int (ea_cons ev_int (ea_cons (ev_tup (ea_cons ev_int (ea_cons ev_int ea_nil))) (ea_cons ev_int (ea_cons ev_int ea_nil)))))) ea_nil))) ea_nil))))
  (eb_cons (es_set 4 B.toBe.nd (ev_call B.toBe ((kn_law_draw F hT).mono (by decide)) rfl (ea_cons (ev_var 0) (ea_cons (ev_bin ok_add (ev_callB cr_len rfl F.n_len (by decide +kernel) (ea_cons (ev_var 2) ea_nil)) ev_int) ea_nil))))
  (eb_cons (es_for B.own B.toBe.calm (ei_val (ev_slice (ev_call B.toBe ((kn_law_mixed F hT).mono (by decide)) rfl (ea_cons (ev_var 0) (ea_cons (ev_call B.toBe ((kn_law_odd_steps F hT).mono (by decide)) rfl (ea_cons (ev_var 1) (ea_cons (ev_var 3) ea_nil))) ea_nil))) eo_none (eo_some ev_int))) (eg_name 5 B.toBe.nd)
  (eb_cons (es_set 6 B.toBe.nd (ev_bin ok_add (ev_bin ok_add (ev_slice (ev_var 2) eo_none (eo_some (ev_var 4))) (ev_lst (ea_cons (ev_var 5) (ea_cons ev_non ea_nil)))) (ev_slice (ev_var 2) (eo_some (ev_var 4)) eo_none)))
  (eb_one (es_if (et_cmp (ok_neY B.toBe F.gfn F.fnd F.isf F.cmf KnEqs.nil) (ev_callX B ((kn_law_tried F hT).mono (by decide)) rfl (ex_lam (ps := []) (fr := ["_law_places", "_law_bad"]) (js := [1, 6]) LM ⟨lamP_by (by kernel_rfl), (js_by (N := ["_law_stream_here", "_law_places", "_law_steps", "_law_step_here", "_law_at", "_law_odd", "_law_bad", "_law_held", "_law_found"]) (fr := ["_law_places", "_law_bad"]) (js := [1, 6]) rfl).1, (js_by (N := ["_law_stream_here", "_law_places", "_law_steps", "_law_step_here", "_law_at", "_law_odd", "_law_bad", "_law_held", "_law_found"]) (fr := ["_law_places", "_law_bad"]) (js := [1, 6]) rfl).2, fun _ _ _ _ _ us hl => match us, hl with | [], _ => rfl, fun A outer s1 H1 E f c' B => (ev_make B.toBe ((kni_Web F hT).mono (by decide)) rfl (ea_cons (ev_var 0) (ea_cons (ev_var 1) ea_nil)))⟩ ex_nil)) (ev_tup (ea_cons ev_str (ea_cons (ev_var 4) ea_nil))))
  (eb_one (es_ret ev_bl))
  eb_nil))))
  (eb_cons (es_if (et_w (et_and (et_cmp (ok_neY B.toBe F.gfn F.fnd F.isf F.cmf KnEqs.nil) (ev_var 2) (ev_lst ea_nil)) (et_and1 (et_cmp (ok_neY B.toBe F.gfn F.fnd F.isf F.cmf KnEqs.nil) (ev_callX B ((kn_law_tried F hT).mono (by decide)) rfl (ex_lam (ps := []) (fr := ["_law_places", "_law_steps"]) (js := [1, 2]) LM ⟨lamP_by (by kernel_rfl), (js_by (N := ["_law_stream_here", "_law_places", "_law_steps", "_law_step_here", "_law_at", "_law_odd", "_law_bad", "_law_held", "_law_found"]) (fr := ["_law_places", "_law_steps"]) (js := [1, 2]) rfl).1, (js_by (N := ["_law_stream_here", "_law_places", "_law_steps", "_law_step_here", "_law_at", "_law_odd", "_law_bad", "_law_held", "_law_found"]) (fr := ["_law_places", "_law_steps"]) (js := [1, 2]) rfl).2, fun _ _ _ _ _ us hl => match us, hl with | [], _ => rfl, fun A outer s1 H1 E f c' B => (ev_make B.toBe ((kni_Web F hT).mono (by decide)) rfl (ea_cons (ev_var 0) (ea_cons (ev_bin ok_add (ev_var 1) (ev_lst (ea_cons (ev_callTy cr_list rfl F.n_list (by decide +kernel) (ea_cons (ev_ix (ix_all B.toBe.u64) (ev_var 1) ev_int) ea_nil)) (ea_cons ev_non ea_nil)))) ea_nil)))⟩ ex_nil)) (ev_tup (ea_cons ev_str (ea_cons (ev_callB cr_len rfl F.n_len (by decide +kernel) (ea_cons (ev_var 2) ea_nil)) ea_nil)))))))
  (eb_one (es_ret ev_bl))
  eb_nil)
  (eb_cons (es_for B.own B.toBe.calm (ei_val (ev_lst (ea_cons ev_non (ea_cons ev_int (ea_cons (ev_un ok_neg ev_int) (ea_cons ev_bl (ea_cons ev_str (ea_cons (ev_tup (ea_cons ev_int ea_nil)) (ea_cons (ev_lst ea_nil) (ea_cons ev_newD (ea_cons (ev_glo (x := "_law_draw") rfl F.g_law_draw) ea_nil))))))))))) (eg_name 5 B.toBe.nd)
  (eb_one (es_if (et_not (ev_tru (ev_call B.toBe ((kn_law_same F hT 30).mono (by decide)) rfl (ea_cons (ev_callX B ((kn_law_tried F hT).mono (by decide)) rfl (ex_lam (ps := []) (fr := ["_law_odd"]) (js := [5]) LM ⟨lamP_by (by kernel_rfl), (js_by (N := ["_law_stream_here", "_law_places", "_law_steps", "_law_step_here", "_law_at", "_law_odd", "_law_bad", "_law_held", "_law_found"]) (fr := ["_law_odd"]) (js := [5]) rfl).1, (js_by (N := ["_law_stream_here", "_law_places", "_law_steps", "_law_step_here", "_law_at", "_law_odd", "_law_bad", "_law_held", "_law_found"]) (fr := ["_law_odd"]) (js := [5]) rfl).2, fun _ _ _ _ _ us hl => match us, hl with | [], _ => rfl, fun A outer s1 H1 E f c' B => (ev_make B.toBe ((kni_Web F hT).mono (by decide)) rfl (ea_cons (ev_var 0) (ea_cons (ev_lst (ea_cons ev_non ea_nil)) ea_nil)))⟩ ex_nil)) (ea_cons (ev_tup (ea_cons ev_str (ea_cons (ev_var 5) ea_nil))) ea_nil)))))
  (eb_one (es_ret ev_bl))
  eb_nil)))
  (eb_cons (es_set 7 B.toBe.nd (ev_lst (ea_cons ev_int ea_nil)))
  (eb_cons (es_set 8 B.toBe.nd (ev_callX B ((kn_law_tried F hT).mono (by decide)) rfl (ex_lam (ps := []) (fr := ["_law_held", "_law_steps"]) (js := [7, 2]) LM ⟨lamP_by (by kernel_rfl), (js_by (N := ["_law_stream_here", "_law_places", "_law_steps", "_law_step_here", "_law_at", "_law_odd", "_law_bad", "_law_held", "_law_found"]) (fr := ["_law_held", "_law_steps"]) (js := [7, 2]) rfl).1, (js_by (N := ["_law_stream_here", "_law_places", "_law_steps", "_law_step_here", "_law_at", "_law_odd", "_law_bad", "_law_held", "_law_found"]) (fr := ["_law_held", "_law_steps"]) (js := [7, 2]) rfl).2, fun _ _ _ _ _ us hl => match us, hl with | [], _ => rfl, fun A outer s1 H1 E f c' B => (ev_make B.toBe ((kni_Web F hT).mono (by decide)) rfl (ea_cons (ev_var 0) (ea_cons (ev_var 1) ea_nil)))⟩ ex_nil)))
  (eb_cons (es_expr (ev_meth mf_append (ev_var 7) (ea_cons ev_str ea_nil)))
  (eb_cons (es_if (et_not (ev_tru (ev_call B.toBe ((kn_law_same F hT 30).mono (by decide)) rfl (ea_cons (ev_var 8) (ea_cons (ev_tup (ea_cons ev_str (ea_cons (ev_lst (ea_cons ev_int (ea_cons ev_str ea_nil))) ea_nil))) ea_nil)))))
  (eb_one (es_ret ev_bl))
  eb_nil)
  (eb_one (es_ret (ev_callB (cr_allA B.toBe.calm) rfl F.n_all (by decide +kernel) (ea_cons (ev_lcB B.toBe (ei_val (ev_lst (ea_cons ev_non (ea_cons ev_int (ea_cons ev_str (ea_cons ev_newD (ea_cons ev_bl (ea_cons (ev_glo (x := "_law_draw") rfl F.g_law_draw) ea_nil)))))))) (blkOk_by (own := [("_law_odd", 5)]) (by kernel_rfl)) (fun s H C cl fp => (eo_name 5 B.toBe.blk.nd (by decide))) (fun s H C cl fp => pts_nilA) (fun s H fp okX => (ev_cmp (ok_eqX B.toBe.blk F.gfn F.isf F.cmf KnEqs.nil) (ev_callX (B.blk okX (blkOk_by (own := [("_law_odd", 5)]) (by kernel_rfl))) ((kn_law_tried F hT).mono (by decide)) rfl (ex_lam (ps := []) (fr := ["_law_places", "_law_odd"]) (js := [1, 5]) LM.blk ⟨lamP_by (by kernel_rfl), (js_by (N := ["_law_stream_here", "_law_places", "_law_steps", "_law_step_here", "_law_at", "_law_odd", "_law_bad", "_law_held", "_law_found"]) (fr := ["_law_places", "_law_odd"]) (js := [1, 5]) rfl).1, (js_by (N := ["_law_stream_here", "_law_places", "_law_steps", "_law_step_here", "_law_at", "_law_odd", "_law_bad", "_law_held", "_law_found"]) (fr := ["_law_places", "_law_odd"]) (js := [1, 5]) rfl).2, fun _ _ _ _ _ us hl => match us, hl with | [], _ => rfl, fun A outer s1 H1 E f c' B => (ev_make B.toBe ((kni_Web F hT).mono (by decide)) rfl (ea_cons (ev_var 0) (ea_cons (ev_var 1) ea_nil)))⟩ ex_nil)) (ev_tup (ea_cons ev_str (ea_cons ev_int ea_nil)))))) ea_nil)))))))))))))
theorem fg_law_refused_right (F : Fc P w K mg base cs) (hT : Tb.T = tabT cs qs) : ∃ fd, FunD K "_law_refused_right" "_law_refused_right" (defArgs s_law_refused_right) (defBody s_law_refused_right) (defScope s_law_refused_right) [] [] (He.ga K "_law_refused_right") fd ∧ FnG ⟨K, mg, P, w, base, Tb.T⟩ 38 (He.ga K "_law_refused_right") fd ["_law_stream_here", "_law_places", "_law_steps"] (spF ⟨K, mg, P, w, base, Tb.T⟩ 3 f_law_refused_right) := by
  obtain ⟨fd, D⟩ := F.d_law_refused_right
  exact ⟨fd, D, fn_ok (N := ["_law_stream_here", "_law_places", "_law_steps", "_law_step_here", "_law_at", "_law_odd", "_law_bad", "_law_held", "_law_found"]) D ⟨rfl, rfl, rfl, by decide +kernel, rfl, by decide +kernel, by decide +kernel⟩ rfl rfl fun cdv A outer s H E e B => ev_law_refused_right (fd := fd) F (by obtain ⟨c, P0, h1, h2, h3⟩ := F.l_law_refused_right _ D; exact ⟨c, P0, h1, e.trans h2, h3⟩) hT B⟩
theorem kn_law_refused_right (F : Fc P w K mg base cs) (hT : Tb.T = tabT cs qs) : Kn ⟨K, mg, P, w, base, Tb.T⟩ 38 "_law_refused_right" 3 f_law_refused_right := by
  obtain ⟨fd, D, h⟩ := fg_law_refused_right F hT
  exact kn_of F.g_law_refused_right D (fun _ _ _ _ _ _ us hl => match us, hl with | [_, _, _], _ => rfl) h
theorem ev_law (F : Fc P w K mg base cs) {f : Addr} {cdv : Value} {A : Around} {outer : List Env} {s : Shared} {H : Hp} {E : XK} (hT : Tb.T = tabT cs qs) (B : Bd (cxOf (L2.CX P w) P w K mg base ["_law_script", "_law_stream_here", "_law_turn", "_law_places", "_law_steps"] "law" (defScope s_law) f cdv A outer s H E) (WR E) 38) : EvB (cxOf (L2.CX P w) P w K mg base ["_law_script", "_law_stream_here", "_law_turn", "_law_places", "_law_steps"] "law" (defScope s_law) f cdv A outer s H E) (WR E) (defBody s_law) c_law := 
  (eb_cons (es_set 1 B.toBe.nd (ev_callX B ((kn_law_stream F hT).mono (by decide)) rfl (ex_var 0 ex_nil)))
  (eb_cons (es_for B.own B.toBe.calm (ei_range1 rfl F.n_range (ea_cons ev_int ea_nil)) (eg_name 2 B.toBe.nd)
  (eb_cons (es_asg (ev_call B.toBe ((kn_law_web F hT).mono (by decide)) rfl (ea_cons (ev_var 1) (ea_cons ev_int (ea_cons ev_int ea_nil)))) (eg_tup B.toBe.calm (egs_cons (eg_name 3 B.toBe.nd) (egs_cons (eg_name 4 B.toBe.nd) egs_nil))))
  (eb_cons (es_if (et_w (et_or (et_not (ev_tru (ev_call B.toBe ((kn_law_made_right F hT).mono (by decide)) rfl (ea_cons (ev_var 1) (ea_cons (ev_var 3) (ea_cons (ev_var 4) ea_nil)))))) (et_or1 (et_not (ev_tru (ev_call B.toBe ((kn_law_unlike_right F hT).mono (by decide)) rfl (ea_cons (ev_var 1) (ea_cons (ev_var 3) (ea_cons (ev_var 4) ea_nil)))))))))
  (eb_one (es_ret ev_bl))
  eb_nil)
  (eb_one (es_if (et_not (ev_tru (ev_call B.toBe ((kn_law_refused_right F hT).mono (by decide)) rfl (ea_cons (ev_var 1) (ea_cons (ev_var 3) (ea_cons (ev_var 4) ea_nil))))))
  (eb_one (es_ret ev_bl))
  eb_nil)))))
  (eb_one (es_ret (ev_and (ev_call B.toBe ((kn_law_same F hT 30).mono (by decide)) rfl (ea_cons (ev_methO0 B.toBe ((knm_Web_steps F hT).mono (by decide)) (ev_make B.toBe ((kni_Web F hT).mono (by decide)) rfl (ea_cons ev_int (ea_cons (ev_lst ea_nil) ea_nil)))) (ea_cons (ev_lst ea_nil) ea_nil))) (ev_and1 (ev_cmp (ok_eqX B.toBe F.gfn F.isf F.cmf (KnEqs.cons ((kneq_Web F hT).mono (by decide)) KnEqs.nil)) (ev_make B.toBe ((kni_Web F hT).mono (by decide)) rfl (ea_cons ev_int (ea_cons (ev_tup ea_nil) ea_nil))) (ev_make B.toBe ((kni_Web F hT).mono (by decide)) rfl (ea_cons ev_int (ea_cons (ev_lst ea_nil) ea_nil))))))))))
theorem fg_law (F : Fc P w K mg base cs) (hT : Tb.T = tabT cs qs) : ∃ fd, FunD K "law" "law" (defArgs s_law) (defBody s_law) (defScope s_law) [] [] (He.ga K "law") fd ∧ FnG ⟨K, mg, P, w, base, Tb.T⟩ 39 (He.ga K "law") fd ["_law_script"] (spF ⟨K, mg, P, w, base, Tb.T⟩ 1 f_law) := by
  obtain ⟨fd, D⟩ := F.d_law
  exact ⟨fd, D, fn_ok (N := ["_law_script", "_law_stream_here", "_law_turn", "_law_places", "_law_steps"]) D ⟨rfl, rfl, rfl, by decide +kernel, rfl, by decide +kernel, by decide +kernel⟩ rfl rfl fun cdv A outer s H E e B => ev_law F hT B⟩
theorem kn_law (F : Fc P w K mg base cs) (hT : Tb.T = tabT cs qs) : Kn ⟨K, mg, P, w, base, Tb.T⟩ 39 "law" 1 f_law := by
  obtain ⟨fd, D, h⟩ := fg_law F hT
  exact kn_of F.g_law D (fun _ _ _ _ _ _ us hl => match us, hl with | [_], _ => rfl) h
end
end K01
end

section
set_option Elab.async false
set_option linter.all false
set_option autoImplicit false
set_option maxRecDepth 100000
set_option maxHeartbeats 4000000
/-! law_k01_webs_made: its head (printed by gen.py). -/
namespace K01
open PySem PySem.Spec L2 AM
def h_d_is_list : He.DefD := ⟨("is_list", none), "is_list", "is_list", defArgs s_is_list, defBody s_is_list, defScope s_is_list, [], []⟩
def h_d_is_whole : He.DefD := ⟨("is_whole", none), "is_whole", "is_whole", defArgs s_is_whole, defBody s_is_whole, defScope s_is_whole, [], []⟩
def h_d_is_positive : He.DefD := ⟨("is_positive", none), "is_positive", "is_positive", defArgs s_is_positive, defBody s_is_positive, defScope s_is_positive, [], []⟩
def h_d_is_pair : He.DefD := ⟨("is_pair", none), "is_pair", "is_pair", defArgs s_is_pair, defBody s_is_pair, defScope s_is_pair, [], []⟩
def h_d_as_tuples : He.DefD := ⟨("as_tuples", none), "as_tuples", "as_tuples", defArgs s_as_tuples, defBody s_as_tuples, defScope s_as_tuples, [], []⟩
def h_d_first_bad : He.DefD := ⟨("first_bad", none), "first_bad", "first_bad", defArgs s_first_bad, defBody s_first_bad, defScope s_first_bad, [], []⟩
def h_d_is_place : He.DefD := ⟨("is_place", none), "is_place", "is_place", defArgs s_is_place, defBody s_is_place, defScope s_is_place, [], []⟩
def h_d_is_step : He.DefD := ⟨("is_step", none), "is_step", "is_step", defArgs s_is_step, defBody s_is_step, defScope s_is_step, [], []⟩
def h_d_Web_init : He.DefD := ⟨("Web", some "__init__"), "__init__", "Web.__init__", defArgs s_Web_init, defBody s_Web_init, defScope s_Web_init, [], []⟩
def h_d_Web_places : He.DefD := ⟨("Web", some "places"), "places", "Web.places", defArgs s_Web_places, defBody s_Web_places, defScope s_Web_places, [], []⟩
def h_d_Web_steps : He.DefD := ⟨("Web", some "steps"), "steps", "Web.steps", defArgs s_Web_steps, defBody s_Web_steps, defScope s_Web_steps, [], []⟩
def h_d_Web_eq : He.DefD := ⟨("Web", some "__eq__"), "__eq__", "Web.__eq__", defArgs s_Web_eq, defBody s_Web_eq, defScope s_Web_eq, [], []⟩
def h_d_law_stream : He.DefD := ⟨("_law_stream", none), "_law_stream", "_law_stream", defArgs s_law_stream, defBody s_law_stream, defScope s_law_stream, [], []⟩
def h_d_law_draw : He.DefD := ⟨("_law_draw", none), "_law_draw", "_law_draw", defArgs s_law_draw, defBody s_law_draw, defScope s_law_draw, [], []⟩
def h_d_law_pick : He.DefD := ⟨("_law_pick", none), "_law_pick", "_law_pick", defArgs s_law_pick, defBody s_law_pick, defScope s_law_pick, [], []⟩
def h_d_law_mixed : He.DefD := ⟨("_law_mixed", none), "_law_mixed", "_law_mixed", defArgs s_law_mixed, defBody s_law_mixed, defScope s_law_mixed, [], []⟩
def h_d_law_same : He.DefD := ⟨("_law_same", none), "_law_same", "_law_same", defArgs s_law_same, defBody s_law_same, defScope s_law_same, [], []⟩
def h_d_law_loose : He.DefD := ⟨("_law_loose", none), "_law_loose", "_law_loose", defArgs s_law_loose, defBody s_law_loose, defScope s_law_loose, [], []⟩
def h_d_law_amounts : He.DefD := ⟨("_law_amounts", none), "_law_amounts", "_law_amounts", defArgs s_law_amounts, defBody s_law_amounts, defScope s_law_amounts, [], []⟩
def h_d_law_step : He.DefD := ⟨("_law_step", none), "_law_step", "_law_step", defArgs s_law_step, defBody s_law_step, defScope s_law_step, [], []⟩
def h_d_law_web : He.DefD := ⟨("_law_web", none), "_law_web", "_law_web", defArgs s_law_web, defBody s_law_web, defScope s_law_web, [], []⟩
def h_d_law_tried : He.DefD := ⟨("_law_tried", none), "_law_tried", "_law_tried", defArgs s_law_tried, defBody s_law_tried, defScope s_law_tried, [], []⟩
def h_d_law_odd_steps : He.DefD := ⟨("_law_odd_steps", none), "_law_odd_steps", "_law_odd_steps", defArgs s_law_odd_steps, defBody s_law_odd_steps, defScope s_law_odd_steps, [], []⟩
def h_d_law_made_right : He.DefD := ⟨("_law_made_right", none), "_law_made_right", "_law_made_right", defArgs s_law_made_right, defBody s_law_made_right, defScope s_law_made_right, [], []⟩
def h_d_law_near : He.DefD := ⟨("_law_near", none), "_law_near", "_law_near", defArgs s_law_near, defBody s_law_near, defScope s_law_near, [], []⟩
def h_d_law_unlike_right : He.DefD := ⟨("_law_unlike_right", none), "_law_unlike_right", "_law_unlike_right", defArgs s_law_unlike_right, defBody s_law_unlike_right, defScope s_law_unlike_right, [], []⟩
def h_d_law_refused_right : He.DefD := ⟨("_law_refused_right", none), "_law_refused_right", "_law_refused_right", defArgs s_law_refused_right, defBody s_law_refused_right, defScope s_law_refused_right, [], []⟩
def h_d_law : He.DefD := ⟨("law", none), "law", "law", defArgs s_law, defBody s_law, defScope s_law, [], []⟩
def h_x_BadPlaces : He.DefD := ⟨("BadPlaces", some "__init__"), "__init__", "BadPlaces.__init__", defArgs s_BadPlaces, defBody s_BadPlaces, defScope s_BadPlaces, [], []⟩
def h_x_BadSteps : He.DefD := ⟨("BadSteps", some "__init__"), "__init__", "BadSteps.__init__", defArgs s_BadSteps, defBody s_BadSteps, defScope s_BadSteps, [], []⟩
def hfn0 : List He.DefD := [h_d_is_list, h_d_is_whole, h_d_is_positive, h_d_is_pair, h_d_as_tuples, h_d_first_bad, h_d_is_place, h_d_is_step, h_d_Web_init, h_d_Web_places, h_d_Web_steps, h_d_Web_eq, h_d_law_stream, h_d_law_draw, h_d_law_pick, h_d_law_mixed, h_d_law_same, h_d_law_loose, h_d_law_amounts, h_d_law_step, h_d_law_web, h_d_law_tried, h_d_law_odd_steps, h_d_law_made_right, h_d_law_near, h_d_law_unlike_right, h_d_law_refused_right, h_d_law, h_x_BadPlaces, h_x_BadSteps]
def hfn : List He.DefD := hfn0
def hfa0 : List He.Fa := [.free "abs", .free "all", .free "any", .free "bool", .free "dict", .free "enumerate", .free "int", .free "isinstance", .free "len", .free "list", .free "range", .free "sorted", .free "tuple", .free "zip", .glo "AroundError", .glo "BadPlaces", .glo "BadSteps", .glo "Web", .glo "_law_amounts", .glo "_law_draw", .glo "_law_loose", .glo "_law_made_right", .glo "_law_mixed", .glo "_law_near", .glo "_law_odd_steps", .glo "_law_pick", .glo "_law_refused_right", .glo "_law_same", .glo "_law_step", .glo "_law_stream"]
def hfa1 : List He.Fa := [.glo "_law_tried", .glo "_law_unlike_right", .glo "_law_web", .glo "as_tuples", .glo "first_bad", .glo "is_list", .glo "is_pair", .glo "is_place", .glo "is_positive", .glo "is_step", .glo "is_whole", .glo "law", .cls "Web", .noat "Web" "own_places", .noat "Web" "own_steps", .mkr "Web", .meth "Web" "__eq__", .exm "BadPlaces" "BadPlaces" true, .exm "BadSteps" "BadPlaces" false, .exm "BadPlaces" "BadSteps" false, .exm "BadSteps" "BadSteps" true]
def hfa : List He.Fa := hfa0 ++ hfa1
def hbs0 : List (PySem.W.Frag → Bool) := [xoB "BadPlaces" "places", xoB "BadSteps" "index", xfB "BadPlaces" "places", xfB "BadSteps" "index", cmB ["Web"] "Web", fdB "_law_draw", clB "Web", meB "Web" "places", meB "Web" "steps", isB "Web", gfB "_law_draw"]
def hbs : List (PySem.W.Frag → Bool) := hbs0
def hob : Ob := ⟨5, hfa, hfn, hbs, [("Web", some "__init__"), ("_law_refused_right", none)]⟩
theorem fc [Tb] {P : Program} {w : World} {K : PySem.W.Frag} {mg : Str → Option Value} {base h : Heap} {cs : List (Addr × Addr)} (S : SaysX hob K cs h) (X : K.In base) (G : base.Ns mainGlobals mg) (tb : ∀ p ∈ cs, LamX.TabB base mg p.1 p.2) : Fc P w K mg base cs where
  n_abs := He.free_ok X G (S.fd.fact 0 (f := .free "abs") rfl)
  n_all := He.free_ok X G (S.fd.fact 1 (f := .free "all") rfl)
  n_any := He.free_ok X G (S.fd.fact 2 (f := .free "any") rfl)
  n_bool := He.free_ok X G (S.fd.fact 3 (f := .free "bool") rfl)
  n_dict := He.free_ok X G (S.fd.fact 4 (f := .free "dict") rfl)
  n_enumerate := He.free_ok X G (S.fd.fact 5 (f := .free "enumerate") rfl)
  n_int := He.free_ok X G (S.fd.fact 6 (f := .free "int") rfl)
  n_isinstance := He.free_ok X G (S.fd.fact 7 (f := .free "isinstance") rfl)
  n_len := He.free_ok X G (S.fd.fact 8 (f := .free "len") rfl)
  n_list := He.free_ok X G (S.fd.fact 9 (f := .free "list") rfl)
  n_range := He.free_ok X G (S.fd.fact 10 (f := .free "range") rfl)
  n_sorted := He.free_ok X G (S.fd.fact 11 (f := .free "sorted") rfl)
  n_tuple := He.free_ok X G (S.fd.fact 12 (f := .free "tuple") rfl)
  n_zip := He.free_ok X G (S.fd.fact 13 (f := .free "zip") rfl)
  g_AroundError := (He.glo_ok X G (S.fd.fact 14 (f := .glo "AroundError") rfl))
  g_BadPlaces := (He.glo_ok X G (S.fd.fact 15 (f := .glo "BadPlaces") rfl))
  g_BadSteps := (He.glo_ok X G (S.fd.fact 16 (f := .glo "BadSteps") rfl))
  g_Web := (He.glo_ok X G (S.fd.fact 17 (f := .glo "Web") rfl))
  g_law_amounts := (He.glo_ok X G (S.fd.fact 18 (f := .glo "_law_amounts") rfl))
  g_law_draw := (He.glo_ok X G (S.fd.fact 19 (f := .glo "_law_draw") rfl))
  g_law_loose := (He.glo_ok X G (S.fd.fact 20 (f := .glo "_law_loose") rfl))
  g_law_made_right := (He.glo_ok X G (S.fd.fact 21 (f := .glo "_law_made_right") rfl))
  g_law_mixed := (He.glo_ok X G (S.fd.fact 22 (f := .glo "_law_mixed") rfl))
  g_law_near := (He.glo_ok X G (S.fd.fact 23 (f := .glo "_law_near") rfl))
  g_law_odd_steps := (He.glo_ok X G (S.fd.fact 24 (f := .glo "_law_odd_steps") rfl))
  g_law_pick := (He.glo_ok X G (S.fd.fact 25 (f := .glo "_law_pick") rfl))
  g_law_refused_right := (He.glo_ok X G (S.fd.fact 26 (f := .glo "_law_refused_right") rfl))
  g_law_same := (He.glo_ok X G (S.fd.fact 27 (f := .glo "_law_same") rfl))
  g_law_step := (He.glo_ok X G (S.fd.fact 28 (f := .glo "_law_step") rfl))
  g_law_stream := (He.glo_ok X G (S.fd.fact 29 (f := .glo "_law_stream") rfl))
  g_law_tried := (He.glo_ok X G (S.fd.fact 30 (f := .glo "_law_tried") rfl))
  g_law_unlike_right := (He.glo_ok X G (S.fd.fact 31 (f := .glo "_law_unlike_right") rfl))
  g_law_web := (He.glo_ok X G (S.fd.fact 32 (f := .glo "_law_web") rfl))
  g_as_tuples := (He.glo_ok X G (S.fd.fact 33 (f := .glo "as_tuples") rfl))
  g_first_bad := (He.glo_ok X G (S.fd.fact 34 (f := .glo "first_bad") rfl))
  g_is_list := (He.glo_ok X G (S.fd.fact 35 (f := .glo "is_list") rfl))
  g_is_pair := (He.glo_ok X G (S.fd.fact 36 (f := .glo "is_pair") rfl))
  g_is_place := (He.glo_ok X G (S.fd.fact 37 (f := .glo "is_place") rfl))
  g_is_positive := (He.glo_ok X G (S.fd.fact 38 (f := .glo "is_positive") rfl))
  g_is_step := (He.glo_ok X G (S.fd.fact 39 (f := .glo "is_step") rfl))
  g_is_whole := (He.glo_ok X G (S.fd.fact 40 (f := .glo "is_whole") rfl))
  g_law := (He.glo_ok X G (S.fd.fact 41 (f := .glo "law") rfl))
  d_is_list := S.fd.def_ 0 (d := h_d_is_list) rfl
  d_is_whole := S.fd.def_ 1 (d := h_d_is_whole) rfl
  d_is_positive := S.fd.def_ 2 (d := h_d_is_positive) rfl
  d_is_pair := S.fd.def_ 3 (d := h_d_is_pair) rfl
  d_as_tuples := S.fd.def_ 4 (d := h_d_as_tuples) rfl
  d_first_bad := S.fd.def_ 5 (d := h_d_first_bad) rfl
  d_is_place := S.fd.def_ 6 (d := h_d_is_place) rfl
  d_is_step := S.fd.def_ 7 (d := h_d_is_step) rfl
  d_Web_init := S.fd.def_ 8 (d := h_d_Web_init) rfl
  d_Web_places := S.fd.def_ 9 (d := h_d_Web_places) rfl
  d_Web_steps := S.fd.def_ 10 (d := h_d_Web_steps) rfl
  d_Web_eq := S.fd.def_ 11 (d := h_d_Web_eq) rfl
  d_law_stream := S.fd.def_ 12 (d := h_d_law_stream) rfl
  d_law_draw := S.fd.def_ 13 (d := h_d_law_draw) rfl
  d_law_pick := S.fd.def_ 14 (d := h_d_law_pick) rfl
  d_law_mixed := S.fd.def_ 15 (d := h_d_law_mixed) rfl
  d_law_same := S.fd.def_ 16 (d := h_d_law_same) rfl
  d_law_loose := S.fd.def_ 17 (d := h_d_law_loose) rfl
  d_law_amounts := S.fd.def_ 18 (d := h_d_law_amounts) rfl
  d_law_step := S.fd.def_ 19 (d := h_d_law_step) rfl
  d_law_web := S.fd.def_ 20 (d := h_d_law_web) rfl
  d_law_tried := S.fd.def_ 21 (d := h_d_law_tried) rfl
  d_law_odd_steps := S.fd.def_ 22 (d := h_d_law_odd_steps) rfl
  d_law_made_right := S.fd.def_ 23 (d := h_d_law_made_right) rfl
  d_law_near := S.fd.def_ 24 (d := h_d_law_near) rfl
  d_law_unlike_right := S.fd.def_ 25 (d := h_d_law_unlike_right) rfl
  d_law_refused_right := S.fd.def_ 26 (d := h_d_law_refused_right) rfl
  d_law := S.fd.def_ 27 (d := h_d_law) rfl
  x_BadPlaces := S.fd.def_ 28 (d := h_x_BadPlaces) rfl
  x_BadSteps := S.fd.def_ 29 (d := h_x_BadSteps) rfl
  xo_BadPlaces := xoB_ok (S.bs (xoB "BadPlaces" "places") (List.mem_of_getElem? (i := 0) rfl))
  xo_BadSteps := xoB_ok (S.bs (xoB "BadSteps" "index") (List.mem_of_getElem? (i := 1) rfl))
  xf_BadPlaces_places := xfB_ok (S.bs (xfB "BadPlaces" "places") (List.mem_of_getElem? (i := 2) rfl)) (He.glo_ok X G (S.fd.fact 15 (f := .glo "BadPlaces") rfl))
  xf_BadSteps_index := xfB_ok (S.bs (xfB "BadSteps" "index") (List.mem_of_getElem? (i := 3) rfl)) (He.glo_ok X G (S.fd.fact 16 (f := .glo "BadSteps") rfl))
  cf_Web_own_places := clsFld_ok (S.fd.fact 42 (f := .cls "Web") rfl) (S.fd.fact 43 (f := .noat "Web" "own_places") rfl) (He.glo_ok X G (S.fd.fact 17 (f := .glo "Web") rfl))
  cf_Web_own_steps := clsFld_ok (S.fd.fact 42 (f := .cls "Web") rfl) (S.fd.fact 44 (f := .noat "Web" "own_steps") rfl) (He.glo_ok X G (S.fd.fact 17 (f := .glo "Web") rfl))
  gfn := gfB_ok (fun x hx => by
    simp only [fns, ws, List.mem_cons, List.not_mem_nil, or_false] at hx
    rcases hx with rfl
    · exact ⟨(S.bs (gfB "_law_draw") (List.mem_of_getElem? (i := 10) rfl)), (He.glo_ok X G (S.fd.fact 19 (f := .glo "_law_draw") rfl))⟩)
  isf := isB_ok (fun x hx => by
    simp only [fns, ws, List.mem_cons, List.not_mem_nil, or_false] at hx
    rcases hx with rfl
    · exact ⟨(S.bs (isB "Web") (List.mem_of_getElem? (i := 9) rfl)), (He.glo_ok X G (S.fd.fact 17 (f := .glo "Web") rfl))⟩)
  cmf := cmB_ok (fun x hx => by
    simp only [fns, ws, List.mem_cons, List.not_mem_nil, or_false] at hx
    rcases hx with rfl
    · exact ⟨(S.bs (cmB ["Web"] "Web") (List.mem_of_getElem? (i := 4) rfl)), (He.glo_ok X G (S.fd.fact 17 (f := .glo "Web") rfl))⟩)
  fnd := fdB_ok (fun x hx => by
    simp only [fns, ws, List.mem_cons, List.not_mem_nil, or_false] at hx
    rcases hx with rfl
    · exact ⟨(S.bs (fdB "_law_draw") (List.mem_of_getElem? (i := 5) rfl)), (He.glo_ok X G (S.fd.fact 19 (f := .glo "_law_draw") rfl))⟩)
  co_Web := clB_ok (S.bs (clB "Web") (List.mem_of_getElem? (i := 6) rfl))
  me_Web_places := meB_ok (S.bs (meB "Web" "places") (List.mem_of_getElem? (i := 7) rfl))
  me_Web_steps := meB_ok (S.bs (meB "Web" "steps") (List.mem_of_getElem? (i := 8) rfl))
  em := em_ok (fun c x b hx => by
    simp only [List.mem_cons, List.not_mem_nil, or_false, Prod.mk.injEq] at hx
    rcases hx with ⟨rfl, rfl, rfl⟩ | ⟨rfl, rfl, rfl⟩ | ⟨rfl, rfl, rfl⟩ | ⟨rfl, rfl, rfl⟩
    · exact ⟨(S.fd.fact 47 (f := .exm "BadPlaces" "BadPlaces" true) rfl), (He.glo_ok X G (S.fd.fact 15 (f := .glo "BadPlaces") rfl)), (He.glo_ok X G (S.fd.fact 15 (f := .glo "BadPlaces") rfl))⟩
    · exact ⟨(S.fd.fact 48 (f := .exm "BadSteps" "BadPlaces" false) rfl), (He.glo_ok X G (S.fd.fact 16 (f := .glo "BadSteps") rfl)), (He.glo_ok X G (S.fd.fact 15 (f := .glo "BadPlaces") rfl))⟩
    · exact ⟨(S.fd.fact 49 (f := .exm "BadPlaces" "BadSteps" false) rfl), (He.glo_ok X G (S.fd.fact 15 (f := .glo "BadPlaces") rfl)), (He.glo_ok X G (S.fd.fact 16 (f := .glo "BadSteps") rfl))⟩
    · exact ⟨(S.fd.fact 50 (f := .exm "BadSteps" "BadSteps" true) rfl), (He.glo_ok X G (S.fd.fact 16 (f := .glo "BadSteps") rfl)), (He.glo_ok X G (S.fd.fact 16 (f := .glo "BadSteps") rfl))⟩)
  mk_Web := He.mkr_ok (S.fd.fact 45 (f := .mkr "Web") rfl)
  eq_Web := ⟨(He.meth_ok (S.fd.fact 46 (f := .meth "Web" "__eq__") rfl)).1, (He.meth_ok (S.fd.fact 46 (f := .meth "Web" "__eq__") rfl)).2⟩
  l_Web_init := fun fd D => by
    obtain ⟨c, hc⟩ : ∃ c, cs[0]? = some c := ⟨_, List.getElem?_eq_getElem (by rw [S.len]; decide)⟩
    obtain ⟨_, _, _, _, _, _, _, _, _, _, _, hk, _⟩ := D.ex
    exact ⟨c.1, c.2, hc, codeIs_ok (S.is 0 _ c rfl hc) hk, tb c (List.mem_of_getElem? hc)⟩
  l_law_refused_right := fun fd D => by
    obtain ⟨c, hc⟩ : ∃ c, cs[1]? = some c := ⟨_, List.getElem?_eq_getElem (by rw [S.len]; decide)⟩
    obtain ⟨_, _, _, _, _, _, _, _, _, _, _, hk, _⟩ := D.ex
    exact ⟨c.1, c.2, hc, codeIs_ok (S.is 1 _ c rfl hc) hk, tb c (List.mem_of_getElem? hc)⟩
  nd := S.nd
theorem law_g {l : PySem.W.OpenLaw} {w : World} {mg : Str → Option Value} {fa : Addr} {h : Heap} (Y : ∃ K cs, SaysX hob K cs h) (G : h.Ns mainGlobals mg) (hmg : mg "law" = some (.ref fa)) (plain : ∀ ns : List Int, ns.length ≤ 63 → (∀ z ∈ ns, Builtin.Int.intBits z ≤ 1048576) → ∃ M, f_law [.scr ns] [] = .ok (.bl true) M) : LawG l w 39 63 "_law_script" mg fa h := by
  obtain ⟨K, cs, S⟩ := Y
  letI : Tb := ⟨tabT cs qs⟩
  obtain ⟨fd, D⟩ := S.fd.def_ 27 (d := h_d_law) rfl
  have e := hmg.symm.trans (He.glo_ok S.kin G (S.fd.fact 41 (f := .glo "law") rfl))
  cases e
  have b := FunD.bindsA (ps := ["_law_script"]) D fun _ _ _ _ _ _ us hl => match us, hl with | [_], _ => rfl
  refine ⟨K, tabT cs qs, cs, fd, f_law, S.kin, fun p hp => tabT_in p hp, S.tab, S.off, S.code, fun s v => b s [v] rfl, plain, fun base X G2 tb => ?_⟩
  obtain ⟨fd2, D2, H2⟩ := fg_law (P := l.prog) (w := w) (fc S X G2 tb) rfl
  obtain ⟨_, _, _, _, _, _, _, _, _, _, e1, k1, _⟩ := D.ex
  obtain ⟨_, _, _, _, _, _, _, _, _, _, e2, k2, _⟩ := D2.ex
  have e3 := k1.symm.trans k2
  simp only [Option.some.injEq, Obj.mk.injEq, Data.func.injEq] at e3
  rw [e3.2.2.1]
  exact H2
abbrev Rw : PySem.W.OpenRow := PySem.W.OpenLaw.row PySem.Challenge.rw_anyaround_k01_webs_made
abbrev hk : PySem.W.Hook := hookX hob
def ob (s : PySem.W.SharedT) : He.AlD := obX hob (HandSHeadRun.getT s)
theorem ob_eq (s : PySem.W.SharedT) : ob s = hk.obs s.abs := obX_eq (HandSHeadRun.getT_eq s)
end K01
end

section
set_option Elab.async false
set_option linter.all false
set_option maxRecDepth 100000
set_option maxHeartbeats 0
/-! law_k01_webs_made: the top, run (printed by gen.py). -/
namespace K01
open PySem PySem.Spec PySem.W PyProof.Rows L2 AM
def loo0 : List Str := ["__name__", "AroundError", "BadPlaces", "BadSteps", "is_list", "is_whole", "is_positive", "is_pair", "as_tuples", "first_bad", "is_place", "is_step", "Web", "_law_stream", "_law_draw", "_law_pick", "_law_mixed", "_law_same", "_law_loose", "_law_amounts", "_law_step", "_law_web", "_law_tried", "_law_odd_steps", "_law_made_right", "_law_near", "_law_unlike_right", "_law_refused_right"]
def loo : List Str := loo0
theorem run (w : World) : HandSHeadRun.RunEq Rw (PySem.W.view Rw.prog [31]) hk ob 3000 loo w := by
  intro os
  kernel_rfl
end K01
end

section
set_option Elab.async false
set_option linter.all false
set_option maxRecDepth 100000
set_option maxHeartbeats 0
open PySem PySem.W PySem.Calls PyProof.Rows
theorem K01.holds_of (plain : ∀ ns : List Int, ns.length ≤ 63 → (∀ z ∈ ns, Builtin.Int.intBits z ≤ 1048576) → ∃ M, K01.f_law [.scr ns] [] = .ok (.bl true) M) : PySem.Challenge.rw_anyaround_k01_webs_made.Holds := by
  w_on; o_law
  refine HandSHeadRun.head_any (r := OpenLaw.row PySem.Challenge.rw_anyaround_k01_webs_made) (q := view (OpenLaw.row PySem.Challenge.rw_anyaround_k01_webs_made).prog [31]) (H := K01.hk) (ob := K01.ob) (M := 3000) (loose := K01.loo) (d := HandSHeadRun.topDef (OpenLaw.row PySem.Challenge.rw_anyaround_k01_webs_made).prog 31) (kwd := []) K01.ob_eq
    (by kernel_rfl) (fun s => by kernel_rfl) K01.run (by kernel_rfl) (by kernel_rfl) (by kernel_rfl) (by rfl) (by first | assumption | decide +kernel) (by decide +kernel) ⟨rfl, rfl, rfl, rfl, rfl, by decide +kernel⟩ ?hw ?hc
  case hw => w_witness2
  case hc =>
    refine AM.am_end (l := PySem.Challenge.rw_anyaround_k01_webs_made) (n := 63) (k := 39) (x := "_law_script") rfl (by decide) (by kernel_rfl) ⟨rfl, by decide, by decide⟩ ?F
    intro w mg fa h Y G hmg0
    have hmg : mg ("law" : PySem.Str) = some (.ref fa) := by
      have e : (HandSHeadRun.topDef (OpenLaw.row PySem.Challenge.rw_anyaround_k01_webs_made).prog 31).name = ("law" : PySem.Str) := by kernel_rfl
      rw [← e]
      exact hmg0
    exact K01.law_g Y G hmg plain
end

section
set_option Elab.async false
set_option linter.all false
set_option autoImplicit false
set_option maxRecDepth 100000
set_option maxHeartbeats 4000000
/-! AP 1: the plain side: posts of computations; the stream of draws. -/
namespace AP
open PySem AM L2

/-! ### posts -/
def OkR {α : Type} (r : R α) (Q : α → AH → Prop) : Prop := match r with
  | .ok a M => Q a M
  | _ => False
theorem OkR.bind {α β : Type} {r : R α} {k : α → AH → R β} {Q : β → AH → Prop} (h : OkR r fun a M => OkR (k a M) Q) : OkR (r.bind k) Q := by
  cases r with
  | ok a M => exact h
  | exc c fs M => exact h
  | bad => exact h
theorem OkR.imp {α : Type} {r : R α} {Q Q' : α → AH → Prop} (h : OkR r Q) (k : ∀ a M, Q a M → Q' a M) : OkR r Q' := by
  cases r with
  | ok a M => exact k _ _ h
  | exc c fs M => exact h
  | bad => exact h
theorem OkR.eq {α : Type} {r : R α} {Q : α → AH → Prop} (h : OkR r Q) : ∃ a M, r = .ok a M ∧ Q a M := by
  cases r with
  | ok a M => exact ⟨a, M, rfl, h⟩
  | exc c fs M => exact h.elim
  | bad => exact h.elim
def OkS (r : RS) (N : AM.Loc → AH → Prop) (T : AV → AH → Prop) : Prop := match r with
  | .nx vs M => N vs M
  | .rt a M => T a M
  | _ => False
theorem OkS.imp {r : RS} {N N' : AM.Loc → AH → Prop} {T T' : AV → AH → Prop} (h : OkS r N T) (k : ∀ vs M, N vs M → N' vs M) (l : ∀ a M, T a M → T' a M) : OkS r N' T' := by
  cases r with
  | nx vs M => exact k _ _ h
  | rt a M => exact l _ _ h
  | _ => exact h
section
variable {N : AM.Loc → AH → Prop} {T : AV → AH → Prop} {vs : AM.Loc} {M : AH}
theorem ok_fn {n : Nat} {b : CS} {as : List SV} {Q : AV → AH → Prop} (h : OkS (b (startL n as) M) (fun _ M => Q .non M) Q) : OkR (fnRun n b as M) Q := by
  unfold fnRun
  cases e : b (startL n as) M with
  | nx vs M => rw [e] at h; exact h
  | rt a M => rw [e] at h; exact h
  | bk vs M => rw [e] at h; exact h.elim
  | ct vs M => rw [e] at h; exact h.elim
  | exc c fs vs M => rw [e] at h; exact h.elim
  | bad => rw [e] at h; exact h.elim
theorem ok_seq {a b : CS} (h : OkS (a vs M) (fun vs M => OkS (b vs M) N T) T) : OkS (seqC a b vs M) N T := by
  unfold seqC
  cases e : a vs M <;> rw [e] at h <;> exact h
theorem ok_then {α : Type} {r : R α} {k : α → AH → RS} (h : OkR r fun a M => OkS (k a M) N T) : OkS (thenS r vs k) N T := by
  cases r with
  | ok a M => exact h
  | exc c fs M => exact h.elim
  | bad => exact h.elim
theorem ok_ret {c : CE} (h : OkR (c vs M) T) : OkS (retC c vs M) N T := ok_then h
theorem ok_if {t : CT} {a b : CS} (h : OkR (t vs M) fun k M => OkS (if k = true then a vs M else b vs M) N T) : OkS (ifS t a b vs M) N T := ok_then h
theorem ok_set {c : CE} {i : Nat} (h : OkR (c vs M) fun a M => N (vs.set i (some (.val a))) M) : OkS (asgC c (nameG i) vs M) N T := ok_then (h.imp fun a M z => z)
theorem ok_drop {c : CE} (h : OkR (c vs M) fun _ M => N vs M) : OkS (dropC c vs M) N T := ok_then h
/-- a for loop, over its items -/
theorem ok_loop {it : IT} {g : CG} {b : CS} (I : List AV → AM.Loc → AH → Prop) (hok : ∀ xs vs M, I xs vs M → it.ok M = true) (hs : ∀ x xs vs M, I (x :: xs) vs M → OkS (turnC g b x vs M) (fun vs M => I xs vs M) T) (he : ∀ vs M, I [] vs M → N vs M) :
    ∀ (xs : List AV) (vs : AM.Loc) (M : AH), I xs vs M → OkS (loopC it g b xs vs M) N T
  | [], vs, M, h => by
    unfold loopC
    rw [if_pos (hok _ _ _ h)]
    exact he _ _ h
  | x :: xs, vs, M, h => by
    unfold loopC
    rw [if_pos (hok _ _ _ h)]
    have z := hs _ _ _ _ h
    cases e : turnC g b x vs M with
    | nx vs1 M1 => rw [e] at z; exact ok_loop I hok hs he xs vs1 M1 z
    | rt a M1 => rw [e] at z; exact z
    | bk vs1 M1 => rw [e] at z; exact z.elim
    | ct vs1 M1 => rw [e] at z; exact z.elim
    | exc c fs vs1 M1 => rw [e] at z; exact z.elim
    | bad => rw [e] at z; exact z.elim
theorem ok_turn {i : Nat} {b : CS} {x : AV} (h : OkS (b (vs.set i (some (.val x))) M) N T) : OkS (turnC (nameG i) b x vs M) N T := h
/-- a while loop, by a measure -/
theorem ok_while {t : CT} {b : CS} (I : Nat → AM.Loc → AH → Prop) (hs : ∀ n vs M, I n vs M → OkR (t vs M) fun k M1 => if k = true then ∃ m, n = m + 1 ∧ OkS (b vs M1) (fun vs M => I m vs M) T else N vs M1) :
    ∀ (n k : Nat) (vs : AM.Loc) (M : AH), n < k → I n vs M → OkS (whileN t b k vs M) N T
  | n, 0, vs, M, hk, h => absurd hk (by omega)
  | n, k + 1, vs, M, hk, h => by
    unfold whileN
    refine ok_then ((hs n vs M h).imp fun q M1 z => ?_)
    cases q with
    | false => exact z
    | true =>
      obtain ⟨m, e, z⟩ := z
      show OkS (match b vs M1 with
        | .nx vs1 M2 => whileN t b k vs1 M2
        | .ct vs1 M2 => whileN t b k vs1 M2
        | .bk vs1 M2 => .nx vs1 M2
        | r => r) N T
      cases e2 : b vs M1 with
      | nx vs1 M2 => rw [e2] at z; exact ok_while I hs m k vs1 M2 (by omega) z
      | rt a M2 => rw [e2] at z; exact z
      | bk vs1 M2 => rw [e2] at z; exact z.elim
      | ct vs1 M2 => rw [e2] at z; exact z.elim
      | exc c fs vs1 M2 => rw [e2] at z; exact z.elim
      | bad => rw [e2] at z; exact z.elim
end
/-! ### the heap -/
theorem get_lt {M : AH} {i : Nat} {o : AO} (h : M[i]? = some o) : i < M.length := (List.getElem?_eq_some_iff.mp h).1
theorem set_get {M : AH} {i : Nat} {o o' : AO} (h : M[i]? = some o) : (M.set i o')[i]? = some o' := List.getElem?_set_self (get_lt h)
theorem set_ne {M : AH} {i j : Nat} {o' : AO} (h : i ≠ j) : (M.set i o')[j]? = M[j]? := List.getElem?_set_ne h
theorem app_get {M L : AH} {i : Nat} {o : AO} (h : M[i]? = some o) : (M ++ L)[i]? = some o := by rw [List.getElem?_append_left (get_lt h)]; exact h
/-- all but the two stay -/
structure Fr (s n : Nat) (M M' : AH) : Prop where
  len : M.length ≤ M'.length
  get : ∀ i o, i ≠ s → i ≠ n → M[i]? = some o → M'[i]? = some o
theorem Fr.refl {s n : Nat} {M : AH} : Fr s n M M := ⟨Nat.le_refl _, fun _ _ _ _ h => h⟩
theorem Fr.trans {s n : Nat} {M M1 M2 : AH} (a : Fr s n M M1) (b : Fr s n M1 M2) : Fr s n M M2 := ⟨Nat.le_trans a.len b.len, fun i o h1 h2 h => b.get i o h1 h2 (a.get i o h1 h2 h)⟩
theorem Fr.app {s n : Nat} {M L : AH} : Fr s n M (M ++ L) := ⟨by simp, fun _ _ _ _ h => app_get h⟩
theorem Fr.setS {s n : Nat} {M : AH} {o : AO} : Fr s n M (M.set s o) := ⟨by simp, fun i o' h1 h2 h => by rw [set_ne (Ne.symm h1)]; exact h⟩
theorem Fr.setN {s n : Nat} {M : AH} {o : AO} : Fr s n M (M.set n o) := ⟨by simp, fun i o' h1 h2 h => by rw [set_ne (Ne.symm h2)]; exact h⟩
/-! ### data -/
theorem datAll_map {M : AH} {n : Nat} {α : Type} {f : α → AV} {g : α → PyData} (h : ∀ x, dat M n (f x) = some (g x)) : ∀ xs : List α, datAll (dat M n) (xs.map f) = some (xs.map g)
  | [] => rfl
  | x :: xs => by
    show (match dat M n (f x), datAll (dat M n) (xs.map f) with
      | some d, some ds => some (d :: ds)
      | _, _ => none) = _
    rw [h, datAll_map h xs]
    rfl
end AP
end

section
set_option Elab.async false
set_option linter.all false
set_option autoImplicit false
set_option maxRecDepth 100000
set_option maxHeartbeats 4000000
/-! AP 2: the stream: draw, pick. -/
namespace AP
open PySem AM L2

theorem canLay_ints : ∀ ns : List Int, PyData.canLayAll0 (ns.map .int) = true
  | [] => by simp [PyData.canLayAll0]
  | n :: ns => by simp [PyData.canLayAll0, PyData.canLay0, canLay_ints ns]
theorem depth_ints : ∀ ns : List Int, PyData.depthAll (ns.map .int) ≤ 1
  | [] => by simp [PyData.depthAll]
  | n :: ns => by
    have := depth_ints ns
    simp [PyData.depthAll, PyData.depth]
    omega
theorem datS_ints {M : AH} {n : Nat} {ns : List Int} (h : M[n]? = some (.lst (ns.map .int))) : datS M (.ref n) = some (.list (ns.map .int)) := by
  have e : dat M 40 (.ref n) = some (.list (ns.map .int)) := by
    show (match M[n]? with
      | some (.lst xs) => (datAll (dat M 39) xs).map PyData.list
      | some (.frz xs) => (datAll (dat M 39) xs).map PyData.list
      | _ => none) = _
    rw [h]
    show (datAll (dat M 39) (ns.map AV.int)).map PyData.list = _
    rw [datAll_map (f := AV.int) (g := PyData.int) (fun x => rfl)]
    rfl
  unfold datS
  rw [e]
  have := depth_ints ns
  have s : SeqAt.shaped (.list (ns.map .int)) = true := by
    unfold SeqAt.shaped
    simp [PyData.canLay0, canLay_ints, PyData.depth]
    omega
  show (if SeqAt.shaped (.list (ns.map .int)) = true then some (PyData.list (ns.map .int)) else none) = _
  rw [if_pos s]
theorem datS_int {M : AH} {i : Int} : datS M (.int i) = some (.int i) := by
  have s : SeqAt.shaped (.int i) = true := by simp [SeqAt.shaped, PyData.canLay0, PyData.depth]
  show (if SeqAt.shaped (.int i) = true then some (PyData.int i) else none) = _
  rw [if_pos s]
theorem datS_nil {M : AH} {n : Nat} (h : M[n]? = some (.lst [])) : datS M (.ref n) = some (.list []) := datS_ints (ns := []) h
theorem opEq_int {M : AH} {i j : Int} : opEq (.int i) (.int j) M = .ok (.bl (i == j)) M := by
  unfold opEq
  rw [datS_int, datS_int]
  simp [PyData.eqv]
/-- the stream of draws: its list at s, the script's rest at n; it was drawn at most c times -/
structure Strm (s n : Nat) (c : Nat) (M : AH) : Prop where
  ne : s ≠ n
  ex : ∃ (cur cnt st : Int) (ns : List Int), M[s]? = some (.lst [.ref n, .int cur, .int cnt, .int st]) ∧ M[n]? = some (.lst (ns.map .int)) ∧ 0 ≤ cur ∧ 0 ≤ cnt ∧ cnt ≤ c ∧ 0 ≤ st ∧ st < 2147483647 ∧ ns.length ≤ 63
theorem Strm.mono {s n c c' : Nat} {M : AH} (h : Strm s n c M) (k : c ≤ c') : Strm s n c' M := by
  obtain ⟨ne, cur, cnt, st, ns, h1, h2, h3, h4, h5, h6⟩ := h
  exact ⟨ne, cur, cnt, st, ns, h1, h2, h3, h4, by omega, h6⟩
theorem Strm.app {s n c : Nat} {M L : AH} (h : Strm s n c M) : Strm s n c (M ++ L) := by
  obtain ⟨ne, cur, cnt, st, ns, h1, h2, h3⟩ := h
  exact ⟨ne, cur, cnt, st, ns, app_get h1, app_get h2, h3⟩
theorem Strm.set {s n c i : Nat} {M : AH} {o : AO} (h : Strm s n c M) (h1 : i ≠ s) (h2 : i ≠ n) : Strm s n c (M.set i o) := by
  obtain ⟨ne, cur, cnt, st, ns, e1, e2, h3⟩ := h
  exact ⟨ne, cur, cnt, st, ns, by rw [set_ne h1]; exact e1, by rw [set_ne h2]; exact e2, h3⟩
/-- reading and writing a list -/
theorem isD_lst {M : AH} {s : Nat} {xs : List AV} (h : M[s]? = some (.lst xs)) : isD (.ref s) M = false := by simp [isD, dctOf, h]
theorem ix_at {M : AH} {s : Nat} {xs : List AV} {i : Int} {x : AV} (h : M[s]? = some (.lst xs)) (e : atI xs i = some x) : opIx (.ref s) (.int i) M = .ok x M := by
  simp [opIx, isD_lst h, opIxS, seqA, h, e]
theorem put_at {M : AH} {s : Nat} {xs : List AV} {i : Int} {k : Nat} {v : AV} (h : M[s]? = some (.lst xs)) (e : ixN xs.length i = some k) : setA (.ref s) (.int i) v M = .ok () (M.set s (.lst (xs.set k v))) := by
  simp [setA, isD_lst h, setL, h, e]
theorem ix_tup {M : AH} {xs : List AV} {i : Int} {x : AV} (e : atI xs i = some x) : opIx (.tup xs) (.int i) M = .ok x M := by
  simp [opIx, isD, dctOf, opIxS, seqA, e]
end AP
end

section
set_option Elab.async false
set_option linter.all false
set_option autoImplicit false
set_option maxRecDepth 100000
set_option maxHeartbeats 4000000
/-! AP 3: a draw. -/
namespace AP
open PySem AM L2

def c_draw : CS := (seqC (asgC (bin2 opAdd (bin2 opIx (varC 0) (conC (.int 2))) (conC (.int 1))) (subG (varC 0) (conC (.int 2))))
  (seqC (whileC (andT (cmpT opEq (bin2 opIx (varC 0) (conC (.int 1))) (conC (.int 0))) (cmpT opNe (bin2 opIx (varC 0) (conC (.int 0))) (argsC lstA nilA)))
  (seqC (asgC (argsC absA (consA (methK (onT "list" mPop1) (bin2 opIx (varC 0) (conC (.int 0))) (consA (conC (.int 0)) nilA)) nilA)) (nameG 2))
  (seqC (asgC (bin2 opMod (argsC intA (consA (bin2 opAdd (bin2 opAdd (bin2 opMul (bin2 opIx (varC 0) (conC (.int 3))) (conC (.int 8191))) (varC 2)) (conC (.int 3))) nilA)) (conC (.int 2147483647))) (subG (varC 0) (conC (.int 3))))
  (asgC (ifC (cmpT opGe (varC 2) (bin2 opPow (conC (.int 10)) (conC (.int 18)))) (varC 2) (conC (.int 0))) (subG (varC 0) (conC (.int 1)))))))
  (seqC (ifS (cmpT opGt (bin2 opIx (varC 0) (conC (.int 1))) (conC (.int 0)))
  (seqC (asgC (bin2 opMod (argsC intA (consA (bin2 opIx (varC 0) (conC (.int 1))) nilA)) (varC 1)) (nameG 3))
  (seqC (asgC (bin2 opDiv (bin2 opIx (varC 0) (conC (.int 1))) (varC 1)) (subG (varC 0) (conC (.int 1))))
  (retC (varC 3))))
  skipC)
  (seqC (asgC (bin2 opMod (argsC intA (consA (bin2 opPow (bin2 opAdd (bin2 opAdd (bin2 opIx (varC 0) (conC (.int 3))) (bin2 opMul (conC (.int 7919)) (bin2 opIx (varC 0) (conC (.int 2))))) (conC (.int 104729))) (conC (.int 5))) nilA)) (conC (.int 2147483629))) (nameG 4))
  (retC (bin2 opMod (bin2 opMod (argsC intA (consA (bin2 opPow (bin2 opAdd (bin2 opAdd (bin2 opMul (varC 4) (conC (.int 48271))) (bin2 opMul (conC (.int 30011)) (bin2 opIx (varC 0) (conC (.int 2))))) (conC (.int 29))) (conC (.int 3))) nilA)) (conC (.int 1000000007))) (varC 1)))))))
def f_draw : List SV → AH → R AV := fnRun 5 c_draw
/-- a stream's list of four -/
def S4 (s n : Nat) (cur cnt st : Int) (M : AH) : Prop := M[s]? = some (.lst [.ref n, .int cur, .int cnt, .int st])
section
variable {s n : Nat} {cur cnt st : Int} {M : AH}
theorem S4.i0 (h : S4 s n cur cnt st M) : opIx (.ref s) (.int 0) M = .ok (.ref n) M := ix_at h rfl
theorem S4.i1 (h : S4 s n cur cnt st M) : opIx (.ref s) (.int 1) M = .ok (.int cur) M := ix_at h rfl
theorem S4.i2 (h : S4 s n cur cnt st M) : opIx (.ref s) (.int 2) M = .ok (.int cnt) M := ix_at h rfl
theorem S4.i3 (h : S4 s n cur cnt st M) : opIx (.ref s) (.int 3) M = .ok (.int st) M := ix_at h rfl
theorem S4.p1 (h : S4 s n cur cnt st M) (v : Int) : ∃ M', setA (.ref s) (.int 1) (.int v) M = .ok () M' ∧ S4 s n v cnt st M' ∧ Fr s n M M' ∧ ∀ i, i ≠ s → M'[i]? = M[i]? := ⟨_, put_at h rfl, set_get h, Fr.setS, fun i hi => set_ne (Ne.symm hi)⟩
theorem S4.p2 (h : S4 s n cur cnt st M) (v : Int) : ∃ M', setA (.ref s) (.int 2) (.int v) M = .ok () M' ∧ S4 s n cur v st M' ∧ Fr s n M M' ∧ ∀ i, i ≠ s → M'[i]? = M[i]? := ⟨_, put_at h rfl, set_get h, Fr.setS, fun i hi => set_ne (Ne.symm hi)⟩
theorem S4.p3 (h : S4 s n cur cnt st M) (v : Int) : ∃ M', setA (.ref s) (.int 3) (.int v) M = .ok () M' ∧ S4 s n cur cnt v M' ∧ Fr s n M M' ∧ ∀ i, i ≠ s → M'[i]? = M[i]? := ⟨_, put_at h rfl, set_get h, Fr.setS, fun i hi => set_ne (Ne.symm hi)⟩
end
/-- what a draw leaves -/
def Drw (s n c : Nat) (m : Int) (M : AH) (a : AV) (M' : AH) : Prop := ∃ d : Int, a = .int d ∧ 0 ≤ d ∧ d < m ∧ Strm s n (c + 1) M' ∧ Fr s n M M'
theorem log2_lt {i : Int} {k : Nat} (h : i.natAbs < 2 ^ k) (hk : 0 < k) : i.natAbs.log2 < k := by
  by_cases z : i.natAbs = 0
  · rw [z]; simpa using hk
  · exact (Nat.log2_lt z).mpr h
/-- the while's state -/
def WI (s n : Nat) (m cnt : Int) (M0 : AH) (k : Nat) (vs : AM.Loc) (M : AH) : Prop := ∃ (z : Option SV) (cur st : Int) (ns : List Int), vs = [some (.val (.ref s)), some (.val (.int m)), z, none, none] ∧ S4 s n cur cnt st M ∧ M[n]? = some (.lst (ns.map .int)) ∧ 0 ≤ cur ∧ 0 ≤ st ∧ st < 2147483647 ∧ ns.length ≤ 63 ∧ k = ns.length ∧ Fr s n M0 M
theorem draw_ok {s n c : Nat} {m : Int} {M : AH} (h : Strm s n c M) (hc : c < 2 ^ 40) (hm : 0 < m) (hm2 : m < 2 ^ 60) : OkR (f_draw [.val (.ref s), .val (.int m)] M) (Drw s n c m M) := by
  obtain ⟨ne, cur, cnt, st, ns, h1, h2, h3, h4, h5, h6, h7, h8⟩ := h
  have S : S4 s n cur cnt st M := h1
  refine ok_fn (ok_seq ?_)
  obtain ⟨M1, e1, S1, f1, g1⟩ := S.p2 (cnt + 1)
  have E : asgC (bin2 opAdd (bin2 opIx (varC 0) (conC (.int 2))) (conC (.int 1))) (subG (varC 0) (conC (.int 2))) (startL 5 [.val (.ref s), .val (.int m)]) M = .nx [some (.val (.ref s)), some (.val (.int m)), none, none, none] M1 := by
    simp [asgC, bin2, varC, conC, startL, S.i2, opAdd, subG, thenS, onlyG, e1]
  rw [E]
  show OkS (seqC _ _ _ M1) _ _
  have n1 : M1[n]? = some (.lst (ns.map .int)) := by rw [g1 n (Ne.symm ne)]; exact h2
  refine ok_seq (OkS.imp (ok_while (N := fun vs M2 => ∃ k, WI s n m (cnt + 1) M k vs M2) (T := fun _ _ => False) (WI s n m (cnt + 1) M) ?step ns.length wfuel _ _ ?fuel ⟨none, cur, st, ns, rfl, S1, n1, h3, h6, h7, h8, rfl, f1⟩) ?after fun _ _ z => z.elim)
  case fuel => unfold wfuel; omega
  case step =>
    rintro k vs M2 ⟨z, cur, st, ns, rfl, S, hn, hc0, hs0, hs1, hl, rfl, fr⟩
    by_cases q : cur = 0
    · subst q
      have tn : opNe (.ref n) (.ref M2.length) (M2 ++ [.lst []]) = .ok (.bl (!PyData.eqvAll (ns.map .int) [])) (M2 ++ [.lst []]) := by
        unfold opNe
        rw [datS_ints (app_get hn), datS_nil (by simp)]
        simp [PyData.eqv]
      have T : andT (cmpT opEq (bin2 opIx (varC 0) (conC (.int 1))) (conC (.int 0))) (cmpT opNe (bin2 opIx (varC 0) (conC (.int 0))) (argsC lstA nilA)) [some (.val (.ref s)), some (.val (.int m)), z, none, none] M2 = .ok (!PyData.eqvAll (ns.map .int) []) (M2 ++ [.lst []]) := by
        simp [andT, cmpT, bin2, varC, conC, S.i1, S.i0, opEq_int, tstA, argsC, nilA, lstA, tn]
      rw [T]
      have S' : S4 s n 0 (cnt + 1) st (M2 ++ [.lst []]) := app_get S
      have hn' : (M2 ++ [.lst []])[n]? = some (.lst (ns.map .int)) := app_get hn
      have fr' : Fr s n M (M2 ++ [.lst []]) := fr.trans Fr.app
      generalize M2 ++ [.lst []] = M3 at S' hn' fr'
      cases ns with
      | nil => exact ⟨_, z, 0, st, [], rfl, S', hn', hc0, hs0, hs1, hl, rfl, fr'⟩
      | cons x ns =>
        refine ⟨ns.length, rfl, ok_seq ?_⟩
        have pp : mPop1 (.ref n) [.int 0] M3 = .ok (.int x) (M3.set n (.lst (ns.map .int))) := by
          simp [mPop1, hn', ixN]
        have kd : kindA (.ref n) M3 = "list" := by simp [kindA, hn']
        have E1 : asgC (argsC absA (consA (methK (onT "list" mPop1) (bin2 opIx (varC 0) (conC (.int 0))) (consA (conC (.int 0)) nilA)) nilA)) (nameG 2) [some (.val (.ref s)), some (.val (.int m)), z, none, none] M3 =
            .nx [some (.val (.ref s)), some (.val (.int m)), some (.val (.int (if x < 0 then -x else x))), none, none] (M3.set n (.lst (ns.map .int))) := by
          simp [asgC, argsC, consA, nilA, methK, bin2, varC, conC, S'.i0, kd, onT, pp, absA, nameG, onlyG]
        rw [E1]
        have S2 : S4 s n 0 (cnt + 1) st (M3.set n (.lst (ns.map .int))) := by unfold S4; rw [set_ne (Ne.symm ne)]; exact S'
        have hn2 : (M3.set n (.lst (ns.map .int)))[n]? = some (.lst (ns.map .int)) := set_get hn'
        have fr2 : Fr s n M (M3.set n (.lst (ns.map .int))) := fr'.trans Fr.setN
        generalize M3.set n (.lst (ns.map .int)) = M4 at S2 hn2 fr2
        have hx : 0 ≤ (if x < 0 then -x else x) := by split <;> omega
        generalize (if x < 0 then -x else x) = y at hx
        obtain ⟨M5, e5, S5, f5, g5⟩ := S2.p3 ((st * 8191 + y + 3) % 2147483647)
        refine ok_seq ?_
        have lg : st.natAbs.log2 + (8191 : Int).natAbs.log2 < 1000000 := by
          have a : st.natAbs.log2 < 31 := log2_lt (by omega) (by decide)
          have b : (8191 : Int).natAbs.log2 < 13 := log2_lt (by decide) (by decide)
          omega
        have E2 : asgC (bin2 opMod (argsC intA (consA (bin2 opAdd (bin2 opAdd (bin2 opMul (bin2 opIx (varC 0) (conC (.int 3))) (conC (.int 8191))) (varC 2)) (conC (.int 3))) nilA)) (conC (.int 2147483647))) (subG (varC 0) (conC (.int 3)))
            [some (.val (.ref s)), some (.val (.int m)), some (.val (.int y)), none, none] M4 = .nx [some (.val (.ref s)), some (.val (.int m)), some (.val (.int y)), none, none] M5 := by
          have mm : opMul (.int st) (.int 8191) M4 = .ok (.int (st * 8191)) M4 := by
            show (if _ then _ else _) = _
            rw [if_pos lg]
          simp [asgC, bin2, argsC, consA, nilA, varC, conC, S2.i3, mm, opAdd, intA, opMod, subG, thenS, onlyG, e5]
        rw [E2]
        obtain ⟨y2, hy2⟩ : ∃ y2 : Int, y2 = (if (10 : Int) ^ 18 ≤ y then y else 0) := ⟨_, rfl⟩
        have hy3 : 0 ≤ y2 := by rw [hy2]; split <;> omega
        obtain ⟨M6, e6, S6, f6, g6⟩ := S5.p1 y2
        have E3 : asgC (ifC (cmpT opGe (varC 2) (bin2 opPow (conC (.int 10)) (conC (.int 18)))) (varC 2) (conC (.int 0))) (subG (varC 0) (conC (.int 1)))
            [some (.val (.ref s)), some (.val (.int m)), some (.val (.int y)), none, none] M5 = .nx [some (.val (.ref s)), some (.val (.int m)), some (.val (.int y)), none, none] M6 := by
          have pw : opPow (.int 10) (.int 18) M5 = .ok (.int (10 ^ 18)) M5 := by
            unfold opPow
            exact if_pos (by decide)
          have cc : ifC (cmpT opGe (varC 2) (bin2 opPow (conC (.int 10)) (conC (.int 18)))) (varC 2) (conC (.int 0)) [some (.val (.ref s)), some (.val (.int m)), some (.val (.int y)), none, none] M5 = .ok (.int y2) M5 := by
            rw [hy2]
            by_cases w : (10 : Int) ^ 18 ≤ y
            · simp only [ifC, cmpT, bin2, varC, conC, R.bind_ok, pw, opGe, tstA, List.getElem?_cons_succ, List.getElem?_cons_zero, decide_eq_true w, if_pos w, if_true]
            · simp only [ifC, cmpT, bin2, varC, conC, R.bind_ok, pw, opGe, tstA, List.getElem?_cons_succ, List.getElem?_cons_zero, decide_eq_false w, if_neg w, if_false, Bool.false_eq_true]
          show thenS (ifC _ _ _ _ M5) _ _ = _
          rw [cc]
          simp [subG, bin2, varC, conC, thenS, onlyG, e6]
        show OkS (asgC _ _ _ M5) _ _
        rw [E3]
        refine ⟨some (.val (.int y)), _, _, ns, rfl, S6, by rw [g6 n (Ne.symm ne), g5 n (Ne.symm ne)]; exact hn2, hy3, by omega, by omega, by simp at hl; omega, rfl, (fr2.trans f5).trans f6⟩
    · have T : andT (cmpT opEq (bin2 opIx (varC 0) (conC (.int 1))) (conC (.int 0))) (cmpT opNe (bin2 opIx (varC 0) (conC (.int 0))) (argsC lstA nilA)) [some (.val (.ref s)), some (.val (.int m)), z, none, none] M2 = .ok false M2 := by
        have : (cur == 0) = false := by simpa using q
        simp [andT, cmpT, bin2, varC, conC, S.i1, opEq_int, tstA, this]
      rw [T]
      exact ⟨_, z, cur, st, ns, rfl, S, hn, hc0, hs0, hs1, hl, rfl, fr⟩
  case after =>
    rintro vs M2 ⟨k, z, cur, st, ns, rfl, S, hn, hc0, hs0, hs1, hl, rfl, fr⟩
    refine ok_seq ?_
    have m0 : 0 ≤ cur % m ∧ cur % m < m := ⟨Int.emod_nonneg _ (by omega), Int.emod_lt_of_pos _ hm⟩
    by_cases q : 0 < cur
    · obtain ⟨M3, e3, S3, f3, g3⟩ := S.p1 (cur / m)
      have dv : opDiv (.int cur) (.int m) M2 = .ok (.int (cur / m)) M2 := by
        show (if _ then _ else _) = _
        rw [if_pos ⟨hm, Nat.lt_trans (log2_lt (k := 60) (by omega) (by decide)) (by decide)⟩]
      refine ok_if ?_
      have T : cmpT opGt (bin2 opIx (varC 0) (conC (.int 1))) (conC (.int 0)) [some (.val (.ref s)), some (.val (.int m)), z, none, none] M2 = .ok true M2 := by
        simp [cmpT, bin2, varC, conC, S.i1, opGt, tstA, q]
      rw [T]
      show OkS (seqC _ _ _ M2) _ _
      have E1 : seqC (asgC (bin2 opMod (argsC intA (consA (bin2 opIx (varC 0) (conC (.int 1))) nilA)) (varC 1)) (nameG 3)) (seqC (asgC (bin2 opDiv (bin2 opIx (varC 0) (conC (.int 1))) (varC 1)) (subG (varC 0) (conC (.int 1)))) (retC (varC 3)))
          [some (.val (.ref s)), some (.val (.int m)), z, none, none] M2 = .rt (.int (cur % m)) M3 := by
        simp [seqC, asgC, bin2, argsC, consA, nilA, varC, conC, S.i1, intA, opMod, hm, nameG, onlyG, dv, subG, thenS, e3, retC]
      rw [E1]
      exact ⟨_, rfl, m0.1, m0.2, ⟨ne, _, _, _, ns, S3, by rw [g3 n (Ne.symm ne)]; exact hn, Int.ediv_nonneg hc0 (by omega), by omega, by omega, hs0, hs1, hl⟩, fr.trans f3⟩
    · refine ok_if ?_
      have T : cmpT opGt (bin2 opIx (varC 0) (conC (.int 1))) (conC (.int 0)) [some (.val (.ref s)), some (.val (.int m)), z, none, none] M2 = .ok false M2 := by
        simp [cmpT, bin2, varC, conC, S.i1, opGt, tstA, q]
      rw [T]
      show OkS (seqC _ _ _ M2) _ _
      have mul1 : opMul (.int 7919) (.int (cnt + 1)) M2 = .ok (.int (7919 * (cnt + 1))) M2 := by
        show (if _ then _ else _) = _
        have a : (cnt + 1).natAbs.log2 < 60 := log2_lt (by omega) (by decide)
        have b : (7919 : Int).natAbs.log2 < 13 := log2_lt (by decide) (by decide)
        rw [if_pos (by omega)]
      have mul2 : opMul (.int 30011) (.int (cnt + 1)) M2 = .ok (.int (30011 * (cnt + 1))) M2 := by
        show (if _ then _ else _) = _
        have a : (cnt + 1).natAbs.log2 < 60 := log2_lt (by omega) (by decide)
        have b : (30011 : Int).natAbs.log2 < 15 := log2_lt (by decide) (by decide)
        rw [if_pos (by omega)]
      have p1 : opPow (.int (st + 7919 * (cnt + 1) + 104729)) (.int 5) M2 = .ok (.int ((st + 7919 * (cnt + 1) + 104729) ^ 5)) M2 := by
        show (if _ then _ else _) = _
        rw [if_pos ⟨by decide, by decide, by omega⟩]; rfl
      have mx0 : 0 ≤ (st + 7919 * (cnt + 1) + 104729) ^ 5 % 2147483629 := Int.emod_nonneg _ (by decide)
      have mx1 : (st + 7919 * (cnt + 1) + 104729) ^ 5 % 2147483629 < 2147483629 := Int.emod_lt_of_pos _ (by decide)
      have E1 : asgC (bin2 opMod (argsC intA (consA (bin2 opPow (bin2 opAdd (bin2 opAdd (bin2 opIx (varC 0) (conC (.int 3))) (bin2 opMul (conC (.int 7919)) (bin2 opIx (varC 0) (conC (.int 2))))) (conC (.int 104729))) (conC (.int 5))) nilA)) (conC (.int 2147483629))) (nameG 4)
          [some (.val (.ref s)), some (.val (.int m)), z, none, none] M2 = .nx [some (.val (.ref s)), some (.val (.int m)), z, none, some (.val (.int ((st + 7919 * (cnt + 1) + 104729) ^ 5 % 2147483629)))] M2 := by
        simp only [asgC, bin2, argsC, consA, nilA, varC, conC, List.getElem?_cons_zero, R.bind_ok, S.i3, S.i2, mul1, opAdd, p1, intA, opMod, if_pos (show (0 : Int) < 2147483629 by decide), nameG, onlyG, thenS_ok]
        rfl
      refine ok_seq ?_
      rw [E1]
      generalize (st + 7919 * (cnt + 1) + 104729) ^ 5 % 2147483629 = mx at mx0 mx1
      have mul3 : opMul (.int mx) (.int 48271) M2 = .ok (.int (mx * 48271)) M2 := by
        show (if _ then _ else _) = _
        have a : mx.natAbs.log2 < 31 := log2_lt (by omega) (by decide)
        have b : (48271 : Int).natAbs.log2 < 16 := log2_lt (by decide) (by decide)
        rw [if_pos (by omega)]
      have p2 : opPow (.int (mx * 48271 + 30011 * (cnt + 1) + 29)) (.int 3) M2 = .ok (.int ((mx * 48271 + 30011 * (cnt + 1) + 29) ^ 3)) M2 := by
        show (if _ then _ else _) = _
        rw [if_pos ⟨by decide, by decide, by omega⟩]; rfl
      refine ok_ret ?_
      have E2 : (bin2 opMod (bin2 opMod (argsC intA (consA (bin2 opPow (bin2 opAdd (bin2 opAdd (bin2 opMul (varC 4) (conC (.int 48271))) (bin2 opMul (conC (.int 30011)) (bin2 opIx (varC 0) (conC (.int 2))))) (conC (.int 29))) (conC (.int 3))) nilA)) (conC (.int 1000000007))) (varC 1))
          [some (.val (.ref s)), some (.val (.int m)), z, none, some (.val (.int mx))] M2 = .ok (.int ((mx * 48271 + 30011 * (cnt + 1) + 29) ^ 3 % 1000000007 % m)) M2 := by
        simp only [bin2, argsC, consA, nilA, varC, conC, List.getElem?_cons_zero, List.getElem?_cons_succ, R.bind_ok, S.i2, mul3, mul2, opAdd, p2, intA, opMod, if_pos (show (0 : Int) < 1000000007 by decide), if_pos hm]
      rw [E2]
      exact ⟨_, rfl, Int.emod_nonneg _ (by omega), Int.emod_lt_of_pos _ hm, ⟨ne, _, _, _, ns, S, hn, hc0, by omega, by omega, hs0, hs1, hl⟩, fr⟩
end AP
end

section
set_option Elab.async false
set_option linter.all false
set_option autoImplicit false
set_option maxRecDepth 100000
set_option maxHeartbeats 4000000
/-! AP 4: pick, mixed. -/
namespace AP
open PySem AM L2

theorem Fr.fresh {s n : Nat} {M M1 : AH} {i : Nat} {o : AO} (a : Fr s n M M1) (h : M.length ≤ i) : Fr s n M (M1.set i o) :=
  ⟨by simpa using a.len, fun j o' h1 h2 e => by rw [set_ne (by have := get_lt e; omega)]; exact a.get j o' h1 h2 e⟩
/-- a's items stand, whatever is drawn -/
def Its (s n : Nat) (a : AV) (xs : List AV) (M : AH) : Prop := a = .tup xs ∨ ∃ i, a = .ref i ∧ i ≠ s ∧ i ≠ n ∧ M[i]? = some (.lst xs)
theorem Its.fr {s n : Nat} {a : AV} {xs : List AV} {M M' : AH} (h : Its s n a xs M) (f : Fr s n M M') : Its s n a xs M' := h.imp id fun ⟨i, e, h1, h2, g⟩ => ⟨i, e, h1, h2, f.get _ _ h1 h2 g⟩
theorem Its.seq {s n : Nat} {a : AV} {xs : List AV} {M : AH} (h : Its s n a xs M) : seqA a M = some xs := by
  rcases h with rfl | ⟨i, rfl, h1, h2, g⟩
  · rfl
  · simp [seqA, g]
theorem Its.ix {s n : Nat} {a : AV} {xs : List AV} {M : AH} (h : Its s n a xs M) {i : Int} {x : AV} (e : atI xs i = some x) : opIx a (.int i) M = .ok x M := by
  rcases h with rfl | ⟨j, rfl, h1, h2, g⟩
  · exact ix_tup e
  · exact ix_at g e
theorem atI_pos {xs : List AV} {i : Int} (h0 : 0 ≤ i) (h1 : i < xs.length) : ∃ x, atI xs i = some x ∧ x ∈ xs ∧ xs[i.toNat]? = some x := by
  have hl : i.toNat < xs.length := by omega
  refine ⟨xs[i.toNat], ?_, List.getElem_mem _, List.getElem?_eq_getElem hl⟩
  unfold atI ixN
  rw [if_pos h0, if_pos h1]
  exact List.getElem?_eq_getElem hl
theorem Its.len {s n : Nat} {a : AV} {xs : List AV} {M : AH} (h : Its s n a xs M) (hl : xs.length ≤ sizeLine) : lenA [a] M = .ok (.int xs.length) M := by
  rcases h with rfl | ⟨j, rfl, h1, h2, g⟩
  · simp [lenA, hl, seqA]
  · simp [lenA, hl, seqA, g]
theorem range_ok {k : Nat} {M : AH} (h : k < 2 ^ 60) : rangeA1 [.int k] M = .ok ⟨rangeV 0 k, []⟩ M := by
  have b : -(2 ^ 62) ≤ (k : Int) ∧ (k : Int) < 2 ^ 62 := by omega
  unfold rangeA1
  exact if_pos b
theorem pop_ok {i : Nat} {d : Int} {xs : List AV} {y : AV} {M : AH} (h : M[i]? = some (.lst xs)) (d0 : 0 ≤ d) (d1 : d < xs.length) (hl : xs.length < 2 ^ 60) (e : xs[d.toNat]? = some y) : mPop1 (.ref i) [.int d] M = .ok y (M.set i (.lst (xs.eraseIdx d.toNat))) := by
  have b : -(2 ^ 63) ≤ d ∧ d < 2 ^ 63 := by omega
  have x : ixN xs.length d = some d.toNat := by unfold ixN; rw [if_pos d0, if_pos d1]
  unfold mPop1
  simp only [h, x, e]
  exact if_pos b
theorem append_ok {i : Nat} {xs : List AV} {y : AV} {M : AH} (h : M[i]? = some (.lst xs)) (hl : xs.length < sizeLine) : mAppend (.ref i) [y] M = .ok .non (M.set i (.lst (xs ++ [y]))) := by
  unfold mAppend
  simp only [h]
  exact if_pos hl
theorem size_lt {k : Nat} (h : k ≤ sizeLine) : k < 2 ^ 60 := Nat.lt_of_le_of_lt h (by unfold sizeLine; decide)
def c_pick : CS := (retC (bin2 opIx (varC 1) (callC 2 f_draw (consA (varC 0) (consA (argsC lenA (consA (varC 1) nilA)) nilA)))))
def f_pick : List SV → AH → R AV := fnRun 2 c_pick
theorem pick_ok {s n c : Nat} {a : AV} {xs : List AV} {M : AH} (h : Strm s n c M) (hc : c < 2 ^ 40) (I : Its s n a xs M) (hx : xs ≠ []) (hl : xs.length ≤ sizeLine) :
    OkR (f_pick [.val (.ref s), .val a] M) fun v M' => v ∈ xs ∧ Strm s n (c + 1) M' ∧ Fr s n M M' := by
  refine ok_fn (ok_ret ?_)
  have hp : 0 < xs.length := List.length_pos_iff.mpr hx
  have z := draw_ok (m := xs.length) h hc (by omega) (by have := size_lt hl; omega)
  have E : bin2 opIx (varC 1) (callC 2 f_draw (consA (varC 0) (consA (argsC lenA (consA (varC 1) nilA)) nilA))) (startL 2 [.val (.ref s), .val a]) M = (f_draw [.val (.ref s), .val (.int xs.length)] M).bind fun b M2 => opIx a b M2 := by
    simp [bin2, varC, startL, callC, consA, nilA, argsC, I.len hl]
  rw [E]
  refine OkR.bind (z.imp ?_)
  rintro v M' ⟨d, rfl, d0, d1, hs, fr⟩
  obtain ⟨x, e, hx, _⟩ := atI_pos d0 d1
  rw [(I.fr fr).ix e]
  exact ⟨hx, hs, fr⟩
def c_mixed : CS := (seqC (parC 2 3 (consA (argsC listA (consA (varC 1) nilA)) (consA (argsC lstA nilA) nilA)))
  (seqC (forC (argsI rangeA1 (consA (argsC lenA (consA (varC 2) nilA)) nilA)) (nameG 4)
  (dropC (methK (onT "list" mAppend) (varC 3) (consA (methK (onT "list" mPop1) (varC 2) (consA (callC 2 f_draw (consA (varC 0) (consA (argsC lenA (consA (varC 2) nilA)) nilA))) nilA)) nilA))))
  (retC (varC 3))))
def f_mixed : List SV → AH → R AV := fnRun 5 c_mixed
/-- the loop's state -/
def MI (s n c k : Nat) (M0 : AH) (a : AV) (xs : List AV) (rest : List AV) (vs : AM.Loc) (M : AH) : Prop := ∃ (z : Option SV) (ls fs : List AV), vs = [some (.val (.ref s)), some (.val a), some (.val (.ref M0.length)), some (.val (.ref (M0.length + 1))), z] ∧
  M[M0.length]? = some (.lst ls) ∧ M[M0.length + 1]? = some (.lst fs) ∧ ls.length = rest.length ∧ (ls ++ fs).Perm xs ∧ Strm s n (c + fs.length) M ∧ Fr s n M0 M
theorem cons_erase : ∀ {ls : List AV} {i : Nat} {x : AV} (hi : i < ls.length), ls[i] = x → (x :: ls.eraseIdx i).Perm ls
  | a :: ls, 0, x, hi, e => by cases e; exact List.Perm.refl _
  | a :: ls, i + 1, x, hi, e => (List.Perm.swap a x (ls.eraseIdx i)).trans ((cons_erase (ls := ls) (i := i) (by simpa using hi) e).cons a)
theorem perm_step {ls fs xs : List AV} {i : Nat} {x : AV} (e : ls[i]? = some x) (p : (ls ++ fs).Perm xs) : (ls.eraseIdx i ++ (fs ++ [x])).Perm xs := by
  refine List.Perm.trans ?_ p
  obtain ⟨hi, e⟩ := List.getElem?_eq_some_iff.mp e
  have q : (x :: ls.eraseIdx i).Perm ls := by
    exact cons_erase hi e
  have h1 : (ls.eraseIdx i ++ (fs ++ [x])).Perm (x :: (ls.eraseIdx i ++ fs)) := by
    rw [← List.append_assoc]
    exact List.perm_append_singleton x _
  exact h1.trans (q.append_right fs)
theorem range_len {i : Nat} {xs : List AV} {vs : AM.Loc} {M : AH} {j : Nat} (hv : vs[j]? = some (some (.val (.ref i)))) (h : M[i]? = some (.lst xs)) (hl : xs.length < 2 ^ 60) : argsI rangeA1 (consA (argsC lenA (consA (varC j) nilA)) nilA) vs M = .ok ⟨rangeV 0 xs.length, []⟩ M := by
  have v : varC j vs M = .ok (.ref i) M := by unfold varC; rw [hv]
  have l : lenA [.ref i] M = .ok (.int xs.length) M := by simp only [lenA, h]
  have a : consA (argsC lenA (consA (varC j) nilA)) nilA vs M = .ok [.int xs.length] M := by
    simp only [consA, argsC, nilA, v, R.bind_ok, l]
  unfold argsI
  rw [a, R.bind_ok]
  exact range_ok hl
theorem mixed_ok {s n c : Nat} {a : AV} {xs : List AV} {M : AH} (h : Strm s n c M) (hc : c + xs.length < 2 ^ 40) (I : Its s n a xs M) (hl : xs.length < sizeLine) :
    OkR (f_mixed [.val (.ref s), .val a] M) fun v M' => ∃ f ys, v = .ref f ∧ M.length ≤ f ∧ M'[f]? = some (.lst ys) ∧ ys.Perm xs ∧ Strm s n (c + xs.length) M' ∧ Fr s n M M' := by
  have hs : s < M.length := by obtain ⟨_, cur, cnt, st, ns, h1, _⟩ := h; exact get_lt h1
  have hn : n < M.length := by obtain ⟨_, cur, cnt, st, ns, h1, h2, _⟩ := h; exact get_lt h2
  refine ok_fn (ok_seq ?_)
  have E : parC 2 3 (consA (argsC listA (consA (varC 1) nilA)) (consA (argsC lstA nilA) nilA)) (startL 5 [.val (.ref s), .val a]) M =
      .nx [some (.val (.ref s)), some (.val a), some (.val (.ref M.length)), some (.val (.ref (M.length + 1))), none] (M ++ [.lst xs] ++ [.lst []]) := by
    simp [parC, consA, argsC, varC, startL, nilA, listA, I.seq, newL, Nat.le_of_lt hl, lstA]
  rw [E]
  show OkS (seqC _ _ _ (M ++ [.lst xs] ++ [.lst []])) _ _
  refine ok_seq ?_
  have e1 : (M ++ [.lst xs] ++ [.lst []])[M.length]? = some (.lst xs) := app_get (by simp)
  have e2 : (M ++ [.lst xs] ++ [.lst []])[M.length + 1]? = some (.lst []) := by simp
  have st : Strm s n (c + ([] : List AV).length) (M ++ [.lst xs] ++ [.lst []]) := h.app.app
  have fr : Fr s n M (M ++ [.lst xs] ++ [.lst []]) := Fr.app.trans Fr.app
  generalize (M ++ [.lst xs] ++ [.lst []]) = M1 at e1 e2 st fr
  have E2 : argsI rangeA1 (consA (argsC lenA (consA (varC 2) nilA)) nilA) [some (.val (.ref s)), some (.val a), some (.val (.ref M.length)), some (.val (.ref (M.length + 1))), none] M1 = .ok ⟨rangeV 0 xs.length, []⟩ M1 := range_len rfl e1 (size_lt (Nat.le_of_lt hl))
  unfold forC
  rw [E2]
  show OkS (loopC _ _ _ (rangeV 0 xs.length) _ M1) _ _
  refine OkS.imp (ok_loop (N := fun vs M2 => MI s n c 0 M a xs [] vs M2) (T := fun _ _ => False) (fun rest vs M2 => MI s n c 0 M a xs rest vs M2) (fun _ _ _ _ => rfl) ?step (fun _ _ z => z) _ _ _ ⟨none, xs, [], rfl, e1, e2, by simp [rangeV], by simp, st, fr⟩) ?after fun _ _ z => z.elim
  case step =>
    rintro x rest vs M2 ⟨z, ls, fs, rfl, g1, g2, hlen, hp, hs2, fr2⟩
    refine ok_turn (ok_drop ?_)
    have hpl : ls.length + fs.length = xs.length := by simpa using hp.length_eq
    have hl0 : 0 < ls.length := by rw [hlen]; simp
    have zz := draw_ok (m := ls.length) hs2 (by omega) (by omega) (by have := size_lt (Nat.le_of_lt hl); omega)
    have k3 : kindA (.ref (M.length + 1)) M2 = "list" := by simp [kindA, g2]
    have k2 : kindA (.ref M.length) M2 = "list" := by simp [kindA, g1]
    have E3 : methK (onT "list" mAppend) (varC 3) (consA (methK (onT "list" mPop1) (varC 2) (consA (callC 2 f_draw (consA (varC 0) (consA (argsC lenA (consA (varC 2) nilA)) nilA))) nilA)) nilA) ([some (.val (.ref s)), some (.val a), some (.val (.ref M.length)), some (.val (.ref (M.length + 1))), z].set 4 (some (.val x))) M2 =
        (f_draw [.val (.ref s), .val (.int ls.length)] M2).bind fun b M3 => (mPop1 (.ref M.length) [b] M3).bind fun y M4 => mAppend (.ref (M.length + 1)) [y] M4 := by
      have hle : ls.length ≤ sizeLine := by omega
      simp [methK, varC, k3, k2, onT, consA, callC, argsC, nilA, lenA, seqA, g1, hle]
      cases f_draw [.val (.ref s), .val (.int ls.length)] M2 with
      | ok b M3 => simp; cases mPop1 (.ref M.length) [b] M3 <;> simp
      | exc c fs M3 => simp
      | bad => simp
    rw [E3]
    refine OkR.bind (zz.imp ?_)
    rintro v M3 ⟨d, rfl, d0, d1, hs3, fr3⟩
    obtain ⟨y, _, _, ey⟩ := atI_pos d0 d1
    have g1' := fr3.get _ _ (by omega) (by omega) g1
    have g2' := fr3.get _ _ (by omega) (by omega) g2
    have pp := pop_ok g1' d0 d1 (size_lt (by omega)) ey
    rw [pp]
    have ga : (M3.set M.length (.lst (ls.eraseIdx d.toNat)))[M.length + 1]? = some (.lst fs) := by rw [set_ne (by omega)]; exact g2'
    have aa := append_ok (y := y) ga (by omega)
    rw [R.bind_ok, aa]
    refine ⟨some (.val x), ls.eraseIdx d.toNat, fs ++ [y], rfl, ?_, set_get ga, ?_, perm_step ey hp, ?_, (fr2.trans fr3).fresh (by omega) |>.fresh (by omega)⟩
    · rw [set_ne (by omega)]; exact set_get g1'
    · rw [List.length_eraseIdx]
      have : d.toNat < ls.length := by omega
      rw [if_pos this]
      simp at hlen
      omega
    · have := (hs3.set (i := M.length) (o := .lst (ls.eraseIdx d.toNat)) (by omega) (by omega)).set (i := M.length + 1) (o := .lst (fs ++ [y])) (by omega) (by omega)
      simpa [Nat.add_assoc] using this
  case after =>
    rintro vs M2 ⟨z, ls, fs, rfl, g1, g2, hlen, hp, hs2, fr2⟩
    have : ls = [] := List.eq_nil_of_length_eq_zero (by simpa using hlen)
    subst this
    refine ok_ret ?_
    have e : fs.length = xs.length := by simpa using hp.length_eq
    exact ⟨M.length + 1, fs, rfl, by omega, g2, by simpa using hp, by rw [← e]; exact hs2, fr2⟩
end AP
end

section
set_option Elab.async false
set_option linter.all false
set_option autoImplicit false
set_option maxRecDepth 100000
set_option maxHeartbeats 4000000
/-! AP 5: posts of expressions, by their parts. -/
namespace AP
open PySem AM L2
section
variable {vs : AM.Loc} {M : AH}
theorem ok_var {i : Nat} {a : AV} {Q : AV → AH → Prop} (hv : vs[i]? = some (some (.val a))) (h : Q a M) : OkR (varC i vs M) Q := by
  unfold varC; rw [hv]; exact h
theorem ok_con {a : AV} {Q : AV → AH → Prop} (h : Q a M) : OkR (conC a vs M) Q := h
theorem ok_nil {Q : List AV → AH → Prop} (h : Q [] M) : OkR (nilA vs M) Q := h
theorem ok_cons {c : CE} {r : CA} {Q : List AV → AH → Prop} (h : OkR (c vs M) fun a M1 => OkR (r vs M1) fun as M2 => Q (a :: as) M2) : OkR (consA c r vs M) Q :=
  OkR.bind (h.imp fun _ _ z => OkR.bind z)
theorem ok_args {op : List AV → AH → R AV} {r : CA} {Q : AV → AH → Prop} (h : OkR (r vs M) fun as M1 => OkR (op as M1) Q) : OkR (argsC op r vs M) Q := OkR.bind h
theorem ok_bin {op : AV → AV → AH → R AV} {a b : CE} {Q : AV → AH → Prop} (h : OkR (a vs M) fun x M1 => OkR (b vs M1) fun y M2 => OkR (op x y M2) Q) : OkR (bin2 op a b vs M) Q :=
  OkR.bind (h.imp fun _ _ z => OkR.bind z)
theorem ok_call {n : Nat} {F : List SV → AH → R AV} {r : CA} {Q : AV → AH → Prop} (h : OkR (r vs M) fun as M1 => as.length = n ∧ OkR (F (as.map .val) M1) Q) : OkR (callC n F r vs M) Q :=
  OkR.bind (h.imp fun _ _ ⟨e, z⟩ => by rw [if_pos e]; exact z)
theorem ok_tup {as : List AV} {Q : AV → AH → Prop} (hl : as.length ≤ 1000) (h : Q (.tup as) M) : OkR (tupA as M) Q := by
  unfold tupA; rw [if_pos (Nat.le_trans hl (by unfold sizeLine; decide))]; exact h
end
end AP
end

section
set_option Elab.async false
set_option linter.all false
set_option autoImplicit false
set_option maxRecDepth 100000
set_option maxHeartbeats 4000000
/-! AP 6: posts of tests. -/
namespace AP
open PySem AM L2
section
variable {vs : AM.Loc} {M : AH} {N : AM.Loc → AH → Prop} {T : AV → AH → Prop}
theorem ok_ifC {t : CT} {a b : CE} {Q : AV → AH → Prop} (h : OkR (t vs M) fun k M1 => OkR (if k = true then a vs M1 else b vs M1) Q) : OkR (ifC t a b vs M) Q := OkR.bind h
theorem ok_tru {c : CE} {Q : Bool → AH → Prop} (h : OkR (c vs M) fun a M1 => OkR (truA a M1) Q) : OkR (truC c vs M) Q := OkR.bind h
theorem ok_notT {t : CT} {Q : Bool → AH → Prop} (h : OkR (t vs M) fun k M1 => Q (!k) M1) : OkR (notT t vs M) Q := OkR.bind (h.imp fun _ _ z => z)
theorem ok_orT {a b : CT} {Q : Bool → AH → Prop} (h : OkR (a vs M) fun k M1 => if k = true then Q true M1 else OkR (b vs M1) Q) : OkR (orT a b vs M) Q :=
  OkR.bind (h.imp fun k M1 z => by cases k with
    | true => exact z
    | false => exact z)
theorem ok_andT {a b : CT} {Q : Bool → AH → Prop} (h : OkR (a vs M) fun k M1 => if k = true then OkR (b vs M1) Q else Q false M1) : OkR (andT a b vs M) Q :=
  OkR.bind (h.imp fun k M1 z => by cases k with
    | true => exact z
    | false => exact z)
theorem ok_cmp {op : AV → AV → AH → R AV} {a b : CE} {Q : Bool → AH → Prop} (h : OkR (a vs M) fun x M1 => OkR (b vs M1) fun y M2 => OkR (op x y M2) fun r M3 => ∃ k, r = .bl k ∧ Q k M3) : OkR (cmpT op a b vs M) Q :=
  OkR.bind (h.imp fun _ _ z => OkR.bind (z.imp fun _ _ z => OkR.bind (z.imp fun _ _ ⟨k, e, q⟩ => by rw [e]; exact q)))
theorem ok_andC {a b : CE} {Q : AV → AH → Prop} (h : OkR (a vs M) fun x M1 => ∃ k, x = .bl k ∧ if k = true then OkR (b vs M1) Q else Q (.bl false) M1) : OkR (andC a b vs M) Q :=
  OkR.bind (h.imp fun x M1 ⟨k, e, z⟩ => by
    subst e
    cases k with
    | true => exact z
    | false => exact z)
theorem ok_notC {a : CE} {Q : AV → AH → Prop} (h : OkR (a vs M) fun x M1 => ∃ k, x = .bl k ∧ Q (.bl (!k)) M1) : OkR (notC a vs M) Q :=
  OkR.bind (h.imp fun x M1 ⟨k, e, z⟩ => by subst e; exact z)
/-- a, b = x, y -/
theorem ok_par {i j : Nat} {r : CA} (h : OkR (r vs M) fun as M1 => ∃ a b, as = [a, b] ∧ N ((vs.set i (some (.val a))).set j (some (.val b))) M1) : OkS (parC i j r vs M) N T :=
  ok_then (h.imp fun as M1 ⟨a, b, e, z⟩ => by subst e; exact z)
theorem ok_asg {c : CE} {g : CG} (h : OkR (c vs M) fun a M1 => OkS (g a vs M1) N fun _ _ => False) : OkS (asgC c g vs M) N T :=
  ok_then (h.imp fun a M1 z => by
    cases e : g a vs M1 <;> rw [e] at z <;> first | exact z | exact z.elim)
theorem ok_sub {co ci : CE} {a : AV} (h : OkR (co vs M) fun o M1 => OkR (ci vs M1) fun i M2 => OkR (setA o i a M2) fun _ M3 => N vs M3) : OkS (subG co ci a vs M) N T :=
  ok_then (OkR.bind (h.imp fun _ _ z => OkR.bind z))
theorem ok_for {ci : CI} {g : CG} {b : CS} (h : OkR (ci vs M) fun it M1 => OkS (loopC it g b it.items vs M1) N T) : OkS (forC ci g b vs M) N T := ok_then h
end
end AP
end

section
set_option Elab.async false
set_option linter.all false
set_option autoImplicit false
set_option maxRecDepth 100000
set_option maxHeartbeats 4000000
/-! AP 7: list comprehensions. -/
namespace AP
open PySem AM L2
section
variable {vs : AM.Loc} {it : IT} {d : Nat} {own : List Nat} {g : CG} {t : CT} {ce : CE}
/-- P: what is done, what is left, the heap -/
theorem ok_lcL (P : List AV → List AV → AH → Prop) {Q : AV → AH → Prop} (hok : ∀ acc xs M, P acc xs M → it.ok M = true)
    (hs : ∀ acc x xs M, P acc (x :: xs) M → ∃ vs1, g x (wipeL vs own) M = .nx vs1 M ∧ OkR (t vs1 M) fun b M2 => if b = true then OkR (ce vs1 M2) fun y M3 => acc.length < sizeLine ∧ M3[d]? = some (.lst acc) ∧ P (acc ++ [y]) xs (M3.set d (.lst (acc ++ [y]))) else P acc xs M2)
    (he : ∀ acc M, P acc [] M → Q (.ref d) M) : ∀ (xs acc : List AV) (M : AH), P acc xs M → OkR (lcL it d own g t ce vs xs M) Q
  | [], acc, M, h => by
    unfold lcL
    rw [if_pos (hok _ _ _ h)]
    exact he _ _ h
  | x :: xs, acc, M, h => by
    unfold lcL
    rw [if_pos (hok _ _ _ h)]
    obtain ⟨vs1, e, z⟩ := hs _ _ _ _ h
    unfold runG
    rw [e]
    obtain ⟨b, M2, e2, z⟩ := z.eq
    show OkR (thenR (t vs1 M) _) Q
    rw [e2]
    cases b with
    | false => exact ok_lcL P hok hs he xs acc M2 z
    | true =>
      obtain ⟨y, M3, e3, hl, hd, z⟩ := OkR.eq z
      show OkR (thenR (ce vs1 M2) _) Q
      rw [e3]
      show OkR (pushA d y M3 _) Q
      unfold pushA
      rw [hd]
      show OkR (if acc.length < sizeLine then _ else _) Q
      rw [if_pos hl]
      exact ok_lcL P hok hs he xs _ _ z
theorem ok_lc {ci : CI} {Q : AV → AH → Prop} {M : AH} (h : OkR (ci vs M) fun it M1 => OkR (lcL it M1.length own g t ce vs it.items (M1 ++ [.lst []])) Q) : OkR (lcC own ci g t ce vs M) Q := OkR.bind h
end
end AP
end

section
set_option Elab.async false
set_option linter.all false
set_option autoImplicit false
set_option maxRecDepth 100000
set_option maxHeartbeats 4000000
/-! AP 8: walking a list or a tuple that stands. -/
namespace AP
open PySem AM L2
/-- an iteration over xs that stands wherever a's items stand -/
structure Walk (s n : Nat) (a : AV) (xs : List AV) (it : IT) : Prop where
  items : it.items = xs
  ok : ∀ M, Its s n a xs M → it.ok M = true
theorem Its.walk {s n : Nat} {a : AV} {xs : List AV} {M : AH} (h : Its s n a xs M) : ∃ it, walkA a M = some it ∧ Walk s n a xs it := by
  rcases h with rfl | ⟨i, rfl, h1, h2, g⟩
  · exact ⟨⟨xs, []⟩, rfl, rfl, fun _ _ => rfl⟩
  · refine ⟨⟨xs, [(i, xs)]⟩, by simp [walkA, g], rfl, fun M' h' => ?_⟩
    rcases h' with e | ⟨j, e, _, _, g'⟩
    · cases e
    · cases e
      simp [IT.ok, isLst, g']
theorem Its.val {s n : Nat} {a : AV} {xs : List AV} {M : AH} {c : CE} {vs : AM.Loc} {Q : IT → AH → Prop} (h : Its s n a xs M) (hc : c vs M = .ok a M) (k : ∀ it, Walk s n a xs it → Q it M) : OkR (valI c vs M) Q := by
  obtain ⟨it, e, w⟩ := h.walk
  unfold valI
  rw [hc, R.bind_ok]
  unfold iterA
  rw [e]
  exact k it w
end AP
end

section
set_option Elab.async false
set_option linter.all false
set_option autoImplicit false
set_option maxRecDepth 100000
set_option maxHeartbeats 4000000
/-! AP 9: a heap that only grew; values that are like a value of tuples. -/
namespace AP
open PySem AM L2
/-- all stays -/
structure Grw (M M' : AH) : Prop where
  len : M.length ≤ M'.length
  get : ∀ (i : Nat) (o : AO), M[i]? = some o → M'[i]? = some o
theorem Grw.refl {M : AH} : Grw M M := ⟨Nat.le_refl _, fun _ _ h => h⟩
theorem Grw.trans {M M1 M2 : AH} (a : Grw M M1) (b : Grw M1 M2) : Grw M M2 := ⟨Nat.le_trans a.len b.len, fun i o h => b.get i o (a.get i o h)⟩
theorem Grw.app {M L : AH} : Grw M (M ++ L) := ⟨by simp, fun _ _ h => app_get h⟩
theorem Grw.fresh {M M1 : AH} {i : Nat} {o : AO} (a : Grw M M1) (h : M.length ≤ i) : Grw M (M1.set i o) :=
  ⟨by simpa using a.len, fun j o' e => by rw [set_ne (by have := get_lt e; omega)]; exact a.get j o' e⟩
theorem Grw.fr {s n : Nat} {M M' : AH} (a : Grw M M') : Fr s n M M' := ⟨a.len, fun i o _ _ h => a.get i o h⟩
theorem Fr.ext {s n : Nat} {M M' : AH} (a : Fr s n M M') (hs : M.length ≤ s) (hn : M.length ≤ n) : Grw M M' := ⟨a.len, fun i o h => a.get i o (by have := get_lt h; omega) (by have := get_lt h; omega) h⟩
theorem Strm.ext {s n c : Nat} {M M' : AH} (h : Strm s n c M) (e : Grw M M') : Strm s n c M' := by
  obtain ⟨ne, cur, cnt, st, ns, h1, h2, h3⟩ := h
  exact ⟨ne, cur, cnt, st, ns, e.get _ _ h1, e.get _ _ h2, h3⟩
theorem Its.ext {s n : Nat} {a : AV} {xs : List AV} {M M' : AH} (h : Its s n a xs M) (f : Grw M M') : Its s n a xs M' := h.fr f.fr
theorem Its.any {s n s' n' : Nat} {a : AV} {xs : List AV} {M : AH} (h : Its s n a xs M) (hs : M.length ≤ s') (hn : M.length ≤ n') : Its s' n' a xs M :=
  h.imp id fun ⟨i, e, _, _, g⟩ => ⟨i, e, by have := get_lt g; omega, by have := get_lt g; omega, g⟩
mutual
/-- v is like w, a value of ints and tuples; lists may stand for tuples -/
inductive Like (s n : Nat) (M : AH) : AV → AV → Prop
  | int (i : Int) : Like s n M (.int i) (.int i)
  | seq {v : AV} {vs ws : List AV} : Its s n v vs M → LikeL s n M vs ws → Like s n M v (.tup ws)
inductive LikeL (s n : Nat) (M : AH) : List AV → List AV → Prop
  | nil : LikeL s n M [] []
  | cons {v w : AV} {vs ws : List AV} : Like s n M v w → LikeL s n M vs ws → LikeL s n M (v :: vs) (w :: ws)
end
mutual
theorem Like.fr {s n : Nat} {M M' : AH} (f : Fr s n M M') : ∀ {v w : AV}, Like s n M v w → Like s n M' v w
  | _, _, .int i => .int i
  | _, _, .seq h t => .seq (h.fr f) (LikeL.fr f t)
theorem LikeL.fr {s n : Nat} {M M' : AH} (f : Fr s n M M') : ∀ {vs ws : List AV}, LikeL s n M vs ws → LikeL s n M' vs ws
  | _, _, .nil => .nil
  | _, _, .cons h t => .cons (Like.fr f h) (LikeL.fr f t)
end
end AP
end

section
set_option Elab.async false
set_option linter.all false
set_option autoImplicit false
set_option maxRecDepth 100000
set_option maxHeartbeats 4000000
/-! AP 10: rules as a tactic. -/
namespace AP
open PySem AM L2
theorem okv {α : Type} {r : R α} {a : α} {M : AH} {Q : α → AH → Prop} (e : r = .ok a M) (h : Q a M) : OkR r Q := by rw [e]; exact h
section
variable {vs : AM.Loc} {M : AH} {N : AM.Loc → AH → Prop} {T : AV → AH → Prop}
theorem andC_t {a b : CE} {Q : AV → AH → Prop} (h : OkR (a vs M) fun x M1 => x = .bl true ∧ OkR (b vs M1) Q) : OkR (andC a b vs M) Q :=
  ok_andC (h.imp fun x M1 ⟨e, q⟩ => ⟨true, e, q⟩)
theorem andC_f {a b : CE} {Q : AV → AH → Prop} (h : OkR (a vs M) fun x M1 => x = .bl false ∧ Q (.bl false) M1) : OkR (andC a b vs M) Q :=
  ok_andC (h.imp fun x M1 ⟨e, q⟩ => ⟨false, e, q⟩)
theorem orT_t {a b : CT} {Q : Bool → AH → Prop} (h : OkR (a vs M) fun k M1 => k = true ∧ Q true M1) : OkR (orT a b vs M) Q :=
  ok_orT (h.imp fun k M1 ⟨e, q⟩ => by subst e; exact q)
theorem orT_f {a b : CT} {Q : Bool → AH → Prop} (h : OkR (a vs M) fun k M1 => k = false ∧ OkR (b vs M1) Q) : OkR (orT a b vs M) Q :=
  ok_orT (h.imp fun k M1 ⟨e, q⟩ => by subst e; exact q)
theorem if_t {t : CT} {a b : CS} (h : OkR (t vs M) fun k M => k = true ∧ OkS (a vs M) N T) : OkS (ifS t a b vs M) N T :=
  ok_if (h.imp fun k M1 ⟨e, q⟩ => by subst e; exact q)
theorem if_f {t : CT} {a b : CS} (h : OkR (t vs M) fun k M => k = false ∧ OkS (b vs M) N T) : OkS (ifS t a b vs M) N T :=
  ok_if (h.imp fun k M1 ⟨e, q⟩ => by subst e; exact q)
theorem ok_skip (h : N vs M) : OkS (skipC vs M) N T := h
theorem ok_un {op : AV → AH → R AV} {a : CE} {Q : AV → AH → Prop} (h : OkR (a vs M) fun x M1 => OkR (op x M1) Q) : OkR (un1 op a vs M) Q := OkR.bind h
end
end AP
end

section
set_option Elab.async false
set_option linter.all false
set_option autoImplicit false
set_option maxRecDepth 100000
set_option maxHeartbeats 4000000
/-! AP 11: comprehensions item by item, slices, all. -/
namespace AP
open PySem AM L2
local macro_rules | `(tactic| and_intros) => `(tactic| repeat (first | (with_reducible first | refine ok_seq ?_ | refine ok_ret ?_ | refine ok_set ?_ | refine ok_drop ?_ | refine ok_con ?_ | refine ok_nil ?_ | refine ok_cons ?_ | refine ok_args ?_ | refine ok_bin ?_ | refine ok_un ?_ | refine ok_tru ?_ | refine ok_notT ?_ | refine ok_cmp ?_ | refine ok_par ?_ | refine ok_for ?_ | refine ok_skip ?_ | refine ok_notC ?_ | refine ok_ifC ?_ | refine ok_call ?_) | ((with_reducible apply ok_var); exact rfl)))
inductive All2 {α β : Type} (R : α → β → Prop) : List α → List β → Prop
  | nil : All2 R [] []
  | cons {x : α} {y : β} {xs : List α} {ys : List β} : R x y → All2 R xs ys → All2 R (x :: xs) (y :: ys)
theorem All2.length {α β : Type} {R : α → β → Prop} {xs : List α} {ys : List β} (h : All2 R xs ys) : xs.length = ys.length := by
  induction h with
  | nil => rfl
  | cons _ _ ih => simp [ih]
theorem All2.imp {α β : Type} {R S : α → β → Prop} {xs : List α} {ys : List β} (h : All2 R xs ys) (k : ∀ x y, R x y → S x y) : All2 S xs ys := by
  induction h with
  | nil => exact .nil
  | cons r _ ih => exact .cons (k _ _ r) ih
theorem All2.map {α β γ : Type} {R : α → β → Prop} {S : α → γ → Prop} {f : β → γ} {xs : List α} {ys : List β} (h : All2 R xs ys) (k : ∀ x y, R x y → S x (f y)) : All2 S xs (ys.map f) := by
  induction h with
  | nil => exact .nil
  | cons r _ ih => exact .cons (k _ _ r) ih
section
variable {vs : AM.Loc} {it : IT} {own : List Nat} {g : CG} {ce : CE}
/-- a comprehension without a test, item by item: g binds the item, ce tells the result, the heap grows alone -/
theorem ok_lcG {M : AH} {R : AV → AV → Prop} {fs : List AV} {Q : AV → AH → Prop} (hok : ∀ M', Grw M M' → it.ok M' = true) (h2 : All2 R it.items fs) (hl : fs.length < 1000000)
    (hs : ∀ x y M', R x y → Grw M M' → ∃ vs1, g x (wipeL vs own) M' = .nx vs1 M' ∧ OkR (ce vs1 M') fun r M2 => r = y ∧ Grw M' M2)
    (he : ∀ M', Grw M M' → M'[M.length]? = some (.lst fs) → Q (.ref M.length) M') : OkR (lcL it M.length own g yesT ce vs it.items (M ++ [.lst []])) Q := by
  refine ok_lcL (fun acc rest M2 => ∃ todo, fs = acc ++ todo ∧ All2 R rest todo ∧ M2[M.length]? = some (.lst acc) ∧ Grw M M2) (fun acc rest M2 ⟨_, _, _, _, fr⟩ => hok _ fr) ?_ ?_ it.items [] _ ⟨fs, rfl, h2, by simp, Grw.app⟩
  · rintro acc x rest M2 ⟨todo, e, h, hd, fr⟩
    cases h with
    | @cons _ y _ ys r t =>
      obtain ⟨vs1, e1, z⟩ := hs x y M2 r fr
      refine ⟨vs1, e1, z.imp ?_⟩
      rintro r' M3 ⟨rfl, g3⟩
      refine ⟨?_, g3.get _ _ hd, ys, by rw [e]; simp, t, set_get (g3.get _ _ hd), (fr.trans g3).fresh (Nat.le_refl _)⟩
      have : acc.length ≤ fs.length := by rw [e]; simp
      unfold sizeLine
      omega
  · rintro acc M2 ⟨todo, e, h, hd, fr⟩
    cases h
    rw [List.append_nil] at e
    exact he _ fr (by rw [e]; exact hd)
end
theorem blsOf_map : ∀ bs : List Bool, blsOf (bs.map .bl) = some bs
  | [] => rfl
  | b :: bs => by
    show (blsOf (bs.map .bl)).map (b :: ·) = _
    rw [blsOf_map bs]
    rfl
theorem all_bls {M : AH} {i : Nat} {bs : List Bool} (h : M[i]? = some (.lst (bs.map .bl))) : allA [.ref i] M = .ok (.bl (bs.all id)) M := by
  have : lstOf (.ref i) M = some (bs.map .bl) := by simp [lstOf, h]
  unfold allA
  simp only [this, Option.bind, blsOf_map]
theorem cut_from {xs : List AV} {k : Nat} : cutA xs (some (k : Int)) none = xs.drop k := by
  unfold cutA
  rw [HT.sIx_nat, HT.sIx_none]
  rw [List.take_of_length_le (by simp)]
  by_cases h : k ≤ xs.length
  · rw [Nat.min_eq_left h]
  · rw [Nat.min_eq_right (by omega), List.drop_of_length_le (by omega), List.drop_of_length_le (by omega)]
theorem cut_to {xs : List AV} {k : Nat} : cutA xs none (some (k : Int)) = xs.take k := by
  unfold cutA
  rw [HT.sIx_nat, HT.sIx_none]
  simp only [List.drop_zero, Nat.sub_zero]
  by_cases h : k ≤ xs.length
  · rw [Nat.min_eq_left h]
  · rw [Nat.min_eq_right (by omega), List.take_of_length_le (by omega), List.take_of_length_le (by omega)]
theorem sl_ok {s n : Nat} {a : AV} {xs : List AV} {M : AH} {lo hi : Option Int} (I : Its s n a xs M) (hs : s < M.length) (hn : n < M.length) (hl : (cutA xs lo hi).length < 1000000) : ∃ b M', opSl a lo hi M = .ok b M' ∧ Grw M M' ∧ Its s n b (cutA xs lo hi) M' ∧ isT a = isT b := by
  rcases I with rfl | ⟨i, rfl, h1, h2, g⟩
  · exact ⟨_, _, rfl, Grw.refl, .inl rfl, rfl⟩
  · refine ⟨.ref M.length, M ++ [.lst (cutA xs lo hi)], ?_, Grw.app, .inr ⟨_, rfl, by omega, by omega, by simp⟩, rfl⟩
    simp only [opSl, g, newL]
    rw [if_pos (by unfold sizeLine; omega)]
theorem walk_eq {s n : Nat} {a : AV} {xs : List AV} {M : AH} {it : IT} (h : walkA a M = some it) (w : Walk s n a xs it) : it = ⟨xs, it.guard⟩ := by
  obtain ⟨is, g⟩ := it
  have := w.items
  simp only at this
  rw [this]
theorem its_one {s n : Nat} {a : AV} {x : AV} {xs : List AV} {M : AH} (I : Its s n a (x :: xs) M) : opIx a (.int 0) M = .ok x M := I.ix (by simp [atI, ixN])
end AP
end

section
set_option Elab.async false
set_option linter.all false
set_option autoImplicit false
set_option maxRecDepth 100000
set_option maxHeartbeats 4000000
section
/-! k01, the plain side: amounts, step. -/
namespace K01
open PySem AM L2 AP
theorem draw_is : f_law_draw = f_draw := rfl
theorem pick_is : f_law_pick = f_pick := rfl
theorem mixed_is : f_law_mixed = f_mixed := rfl
/-- a call of draw, as an expression -/
theorem ev_draw {vs : AM.Loc} {M : AH} {s n c m : Nat} {e : CE} (h : Strm s n c M) (hc : c < 2 ^ 40) (hv : vs[0]? = some (some (.val (.ref s)))) (he : e vs M = .ok (.int m) M) (h0 : 0 < m) (h1 : m < 2 ^ 60) :
    OkR (callC 2 f_law_draw (consA (varC 0) (consA e nilA)) vs M) (Drw s n c m M) := by
  have v : varC 0 vs M = .ok (.ref s) M := by unfold varC; rw [hv]
  have a : consA (varC 0) (consA e nilA) vs M = .ok [.ref s, .int m] M := by
    simp only [consA, nilA, v, R.bind_ok, he]
  unfold callC
  rw [a, R.bind_ok, if_pos (by rfl)]
  exact draw_ok h hc (by omega) (by omega)
/-- a pair of two draws, each shifted -/
theorem pair_ok {vs : AM.Loc} {M : AH} {s n c : Nat} {a b : CE} {P : AV → Prop} (h : Strm s n c M) (hc : c + 2 < 2 ^ 40)
    (ha : ∀ c M, Strm s n c M → c < 2 ^ 40 → OkR (a vs M) fun v M' => (∃ d, v = .int d) ∧ Strm s n (c + 1) M' ∧ Fr s n M M')
    (hb : ∀ c M, Strm s n c M → c < 2 ^ 40 → OkR (b vs M) fun v M' => (∃ d, v = .int d) ∧ Strm s n (c + 1) M' ∧ Fr s n M M') :
    OkR (argsC tupA (consA a (consA b nilA)) vs M) fun v M' => (∃ x y, v = .tup [.int x, .int y]) ∧ Strm s n (c + 2) M' ∧ Fr s n M M' := by
  unfold argsC
  refine OkR.bind ?_
  unfold consA
  refine OkR.bind ((ha c M h (by omega)).imp ?_)
  rintro v M1 ⟨⟨x, rfl⟩, h1, f1⟩
  refine OkR.bind ?_
  refine OkR.bind ((hb (c + 1) M1 h1 (by omega)).imp ?_)
  rintro v M2 ⟨⟨y, rfl⟩, h2, f2⟩
  exact ⟨⟨x, y, rfl⟩, h2, f1.trans f2⟩
theorem d_int {s n c : Nat} {m : Nat} {vs : AM.Loc} (hv : vs[0]? = some (some (.val (.ref s)))) (h0 : 0 < m) (h1 : m < 2 ^ 60) : ∀ c M, Strm s n c M → c < 2 ^ 40 → OkR (callC 2 f_law_draw (consA (varC 0) (consA (conC (.int m)) nilA)) vs M) fun v M' => (∃ d, v = .int d) ∧ Strm s n (c + 1) M' ∧ Fr s n M M' :=
  fun c M h hc => (ev_draw h hc hv rfl h0 h1).imp fun v M' ⟨d, e, _, _, hs, fr⟩ => ⟨⟨d, e⟩, hs, fr⟩
theorem d_sub {s n c : Nat} {m : Nat} {k : Int} {vs : AM.Loc} (hv : vs[0]? = some (some (.val (.ref s)))) (h0 : 0 < m) (h1 : m < 2 ^ 60) : ∀ c M, Strm s n c M → c < 2 ^ 40 → OkR (bin2 opSub (callC 2 f_law_draw (consA (varC 0) (consA (conC (.int m)) nilA))) (conC (.int k)) vs M) fun v M' => (∃ d, v = .int d) ∧ Strm s n (c + 1) M' ∧ Fr s n M M' := by
  intro c M h hc
  unfold bin2
  refine OkR.bind ((ev_draw h hc hv rfl h0 h1).imp ?_)
  rintro v M' ⟨d, rfl, _, _, hs, fr⟩
  exact ⟨⟨d - k, rfl⟩, hs, fr⟩
/-- a pick of written ints -/
theorem pickI_ok {s n : Nat} {vs : AM.Loc} {e : CE} {ns : List Int} (hv : vs[0]? = some (some (.val (.ref s)))) (he : ∀ M, e vs M = .ok (.ref M.length) (M ++ [.lst (ns.map .int)])) (hne : ns ≠ []) (hl : ns.length < 2 ^ 20) :
    ∀ c M, Strm s n c M → c < 2 ^ 40 → OkR (callC 2 f_law_pick (consA (varC 0) (consA e nilA)) vs M) fun v M' => (∃ d ∈ ns, v = .int d) ∧ Strm s n (c + 1) M' ∧ Fr s n M M' := by
  intro c M h hc
  have hs : s < M.length := by obtain ⟨_, cur, cnt, st, ns, h1, _⟩ := h; exact get_lt h1
  have hn : n < M.length := by obtain ⟨_, cur, cnt, st, ns, h1, h2, _⟩ := h; exact get_lt h2
  have v : varC 0 vs M = .ok (.ref s) M := by unfold varC; rw [hv]
  have a : consA (varC 0) (consA e nilA) vs M = .ok [.ref s, .ref M.length] (M ++ [.lst (ns.map .int)]) := by
    simp only [consA, nilA, v, R.bind_ok, he]
  unfold callC
  rw [a, R.bind_ok, if_pos (by rfl)]
  refine (pick_ok (xs := ns.map .int) (a := .ref M.length) h.app hc (.inr ⟨M.length, rfl, by omega, by omega, by simp⟩) (by simpa using hne) (by unfold sizeLine; simp; omega)).imp ?_
  rintro v M' ⟨hm, h2, fr⟩
  obtain ⟨d, hd, rfl⟩ := List.mem_map.mp hm
  exact ⟨⟨d, hd, rfl⟩, h2, Fr.app.trans fr⟩
end K01
end
section
/-! k01, the plain side: amounts, step. -/
namespace K01
open PySem AM L2 AP
def PairI (v : AV) : Prop := ∃ x y, v = .tup [.int x, .int y]
theorem w_eq {vs : AM.Loc} {M : AH} {w k : Int} (hv : vs[1]? = some (some (.val (.int w)))) : cmpT opEq (varC 1) (conC (.int k)) vs M = .ok (w == k) M := by
  have v : varC 1 vs M = .ok (.int w) M := by unfold varC; rw [hv]
  simp only [cmpT, v, conC, R.bind_ok, opEq_int, tstA]
theorem amounts_ok {s n c : Nat} {w : Int} {M : AH} (h : Strm s n c M) (hc : c + 2 < 2 ^ 40) : OkR (f_law_amounts [.val (.ref s), .val (.int w)] M) fun v M' => PairI v ∧ Strm s n (c + 2) M' ∧ Fr s n M M' := by
  refine ok_fn ?_
  have hv : (startL 2 [.val (.ref s), .val (.int w)])[0]? = some (some (.val (.ref s))) := rfl
  have hw : (startL 2 [.val (.ref s), .val (.int w)])[1]? = some (some (.val (.int w))) := rfl
  generalize startL 2 [.val (.ref s), .val (.int w)] = vs at hv hw
  have step : ∀ (k : Int) (a : CE) (b : CS), OkR (a vs M) (fun v M' => PairI v ∧ Strm s n (c + 2) M' ∧ Fr s n M M') → OkS (b vs M) (fun _ M' => PairI .non ∧ Strm s n (c + 2) M' ∧ Fr s n M M') (fun v M' => PairI v ∧ Strm s n (c + 2) M' ∧ Fr s n M M') →
      OkS (seqC (ifS (cmpT opEq (varC 1) (conC (.int k))) (retC a) skipC) b vs M) (fun _ M' => PairI .non ∧ Strm s n (c + 2) M' ∧ Fr s n M M') (fun v M' => PairI v ∧ Strm s n (c + 2) M' ∧ Fr s n M M') := by
    intro k a b ha hb
    refine ok_seq (ok_if ?_)
    rw [w_eq hw]
    cases q : (w == k) with
    | true => exact ok_ret ha
    | false => exact hb
  refine step _ _ _ (pair_ok (P := fun _ => True) h hc (d_int (c := 0) (m := 5) hv (by decide) (by decide)) (d_int (c := 0) (m := 5) hv (by decide) (by decide))) ?_
  refine step _ _ _ (pair_ok (P := fun _ => True) h hc (d_sub (c := 0) (m := 9) hv (by decide) (by decide)) (d_sub (c := 0) (m := 9) hv (by decide) (by decide))) ?_
  refine step _ _ _ (pair_ok (P := fun _ => True) h hc (d_sub (c := 0) (m := 19) hv (by decide) (by decide)) (d_sub (c := 0) (m := 19) hv (by decide) (by decide))) ?_
  refine ok_ret (pair_ok (P := fun _ => True) h hc (fun c M h hc => ?_) (fun c M h hc => ?_))
  · exact (pickI_ok (ns := [0, 0, 0, 1, 3]) hv (fun _ => rfl) (by decide) (by decide) c M h hc).imp fun v M' ⟨⟨d, _, e⟩, z⟩ => ⟨⟨d, e⟩, z⟩
  · exact (pickI_ok (ns := [0, 0, 0, 1, 2]) hv (fun _ => rfl) (by decide) (by decide) c M h hc).imp fun v M' ⟨⟨d, _, e⟩, z⟩ => ⟨⟨d, e⟩, z⟩
end K01
end
section
/-! k01, the plain side: a step. -/
namespace K01
open PySem AM L2 AP
def changes : List Int := [0, 0, 1, -1, 2, -3, 5, -9, 9]
/-- a step as the law draws it -/
def StepV (one other : AV) (v : AV) : Prop := ∃ x y t ch : Int, v = .tup [one, other, .tup [.int x, .int y], .int t, .int ch] ∧ 1 ≤ t ∧ ch ∈ changes
theorem step_ok {s n c : Nat} {one other : AV} {w : Int} {M : AH} (h : Strm s n c M) (hc : c + 5 < 2 ^ 40) :
    OkR (f_law_step [.val (.ref s), .val one, .val other, .val (.int w)] M) fun v M' => StepV one other v ∧ Strm s n (c + 5) M' ∧ Fr s n M M' := by
  refine ok_fn (ok_seq (ok_set (ok_bin (ok_con (ok_call (ok_cons (ok_var (a := .ref s) rfl (ok_cons ((pickI_ok (ns := [1, 2, 6]) (s := s) (n := n) rfl (fun _ => rfl) (by decide) (by decide) c M h (by omega)).imp ?_)))))))))
  rintro v M1 ⟨⟨d, hd, rfl⟩, h1, f1⟩
  obtain ⟨e, rfl, e0, e1⟩ : ∃ e : Nat, d = e ∧ 0 < e ∧ e < 2 ^ 60 := ⟨d.toNat, by simp at hd; omega⟩
  refine ok_nil ⟨rfl, (draw_ok (m := e) h1 (by omega) (by omega) (by omega)).imp ?_⟩
  rintro v M2 ⟨t, rfl, t0, t1, h2, f2⟩
  refine ok_seq (ok_set ((pickI_ok (ns := changes) (s := s) (n := n) rfl (fun _ => rfl) (by decide) (by decide) _ M2 h2 (by omega)).imp ?_))
  rintro v M3 ⟨⟨ch, hch, rfl⟩, h3, f3⟩
  refine ok_ret (ok_args (ok_cons (ok_var (a := one) rfl (ok_cons (ok_var (a := other) rfl (ok_cons (ok_call (ok_cons (ok_var (a := .ref s) rfl (ok_cons (ok_var (a := .int w) rfl (ok_nil ⟨rfl, (amounts_ok h3 (by omega)).imp ?_⟩))))))))))))
  rintro v M4 ⟨⟨x, y, rfl⟩, h4, f4⟩
  refine ok_cons (ok_var (a := .int (1 + t)) rfl (ok_cons (ok_var (a := .int ch) rfl (ok_nil (ok_tup (by simp) ?_)))))
  exact ⟨⟨x, y, 1 + t, ch, rfl, by omega, hch⟩, h4, ((f1.trans f2).trans f3).trans f4⟩
end K01
end
section
/-! k01, the plain side: is_list, as_tuples. -/
namespace K01
open PySem AM L2 AP
def LT : AV := .tup [.ty "list", .ty "tuple"]
theorem isA_of {v : AV} {M : AH} {t : AT} {b : Bool} {c : AV} (h : tyA fns ws M v = some t) (e : isCls ws t c = some b) : isA fns ws [v, c] M = .ok (.bl b) M := by
  unfold isA
  simp only [h, e]
theorem isA2_tup {v : AV} {M : AH} {t : AT} {b : Bool} {cs : List AV} (h : tyA fns ws M v = some t) (e : isCls ws t (.tup cs) = some b) : isA2 fns ws [v, .tup cs] M = .ok (.bl b) M := isA_of h e
theorem isA2_ty {v : AV} {M : AH} {t : AT} {b : Bool} {y : String} (h : tyA fns ws M v = some t) (e : isCls ws t (.ty y) = some b) : isA2 fns ws [v, .ty y] M = .ok (.bl b) M := isA_of h e
theorem lt_ok {v : AV} {M : AH} {vs : AM.Loc} {i : Nat} {t : AT} {b : Bool} (hv : vs[i]? = some (some (.val v))) (h : tyA fns ws M v = some t) (e : isCls ws t LT = some b) :
    argsC (isA2 fns ws) (consA (varC i) (consA (argsC tupA (consA (conC (.ty "list")) (consA (conC (.ty "tuple")) nilA))) nilA)) vs M = .ok (.bl b) M := by
  have v1 : varC i vs M = .ok v M := by unfold varC; rw [hv]
  have tt : tupA [.ty "list", .ty "tuple"] M = .ok LT M := by unfold tupA; exact if_pos (by decide)
  have a : consA (varC i) (consA (argsC tupA (consA (conC (.ty "list")) (consA (conC (.ty "tuple")) nilA))) nilA) vs M = .ok [v, LT] M := by
    simp only [consA, argsC, nilA, conC, v1, R.bind_ok, tt]
  show (consA (varC i) (consA (argsC tupA (consA (conC (.ty "list")) (consA (conC (.ty "tuple")) nilA))) nilA) vs M).bind (isA2 fns ws) = _
  rw [a, R.bind_ok]
  exact isA2_tup h e
theorem is_list_ok {v : AV} {M : AH} {t : AT} {b : Bool} (h : tyA fns ws M v = some t) (e : isCls ws t LT = some b) : f_is_list [.val v] M = .ok (.bl b) M := by
  unfold f_is_list fnRun c_is_list retC
  rw [lt_ok (v := v) rfl h e]
  rfl
theorem ty_its {s n : Nat} {v : AV} {xs : List AV} {M : AH} (h : Its s n v xs M) : ∃ t, tyA fns ws M v = some t ∧ isCls ws t LT = some true := by
  rcases h with rfl | ⟨i, rfl, _, _, g⟩
  · exact ⟨.tup, rfl, rfl⟩
  · exact ⟨.lst, by simp [tyA, g], rfl⟩
end K01
end
section
/-! k01, the plain side: as_tuples. -/
namespace K01
open PySem AM L2 AP
mutual
def dpA : AV → Nat
  | .tup ws => dpL ws + 1
  | _ => 0
def dpL : List AV → Nat
  | [] => 0
  | w :: ws => max (dpA w) (dpL ws)
end
mutual
/-- no list of more than a million -/
def smA : AV → Bool
  | .tup ws => decide (ws.length < 1000000) && smL ws
  | _ => true
def smL : List AV → Bool
  | [] => true
  | w :: ws => smA w && smL ws
end
theorem LikeL.length {s n : Nat} {M : AH} : ∀ {vs ws : List AV}, LikeL s n M vs ws → vs.length = ws.length
  | _, _, .nil => rfl
  | _, _, .cons _ t => by simp [LikeL.length t]
theorem as_tuples_ok {s n : Nat} : ∀ (k : Nat) {v w : AV} {M : AH}, Like s n M v w → dpA w < k → smA w = true → OkR (f_as_tuples k [.val v] M) fun a M' => a = w ∧ Grw M M'
  | 0, _, _, _, _, h, _ => absurd h (by omega)
  | k + 1, v, w, M, L, hd, hs => by
    refine ok_fn (ok_ret (ok_ifC (ok_tru (ok_call (ok_cons (ok_var (a := v) rfl (ok_nil ⟨rfl, ?_⟩)))))))
    cases L with
    | int i =>
      show OkR (f_is_list [.val (.int i)] M) _
      rw [is_list_ok (t := .int) (b := false) rfl rfl]
      exact ok_var (vs := startL 2 [.val (.int i)]) (i := 0) (a := .int i) (Q := fun a M' => a = .int i ∧ Grw M M') rfl ⟨rfl, Grw.refl⟩
    | @seq v vs ws I Ls =>
      obtain ⟨t, h1, h2⟩ := ty_its I
      show OkR (f_is_list [.val v] M) _
      rw [is_list_ok h1 h2]
      refine ok_args (vs := startL 2 [.val v]) (ok_cons (ok_lc (I.val (c := varC 0) rfl fun it w => ?_)))
      rw [w.items]
      unfold dpA at hd
      unfold smA at hs
      rw [Bool.and_eq_true, decide_eq_true_eq] at hs
      refine ok_lcL (fun acc rest M2 => ∃ ws2, ws = acc ++ ws2 ∧ LikeL s n M rest ws2 ∧ dpL ws2 < k ∧ smL ws2 = true ∧ M2[M.length]? = some (.lst acc) ∧ Grw M M2) (fun acc rest M2 ⟨_, _, _, _, _, _, fr⟩ => w.ok _ (I.ext fr)) ?_ ?_ vs [] _ ⟨ws, rfl, Ls, by omega, hs.2, by simp, Grw.app⟩
      · rintro acc x rest M2 ⟨ws2, e, hl, hd2, hs2, hM, fr⟩
        cases hl with
        | @cons _ w0 _ ws0 h t =>
          refine ⟨_, rfl, ok_call (ok_cons (ok_var (a := x) rfl (ok_nil ⟨rfl, ?_⟩)))⟩
          unfold dpL at hd2
          unfold smL at hs2
          rw [Bool.and_eq_true] at hs2
          refine (as_tuples_ok k (h.fr fr.fr) (by omega) hs2.1).imp ?_
          rintro y M3 ⟨rfl, fr3⟩
          refine ⟨?_, fr3.get _ _ hM, ws0, by rw [e]; simp, t, by omega, hs2.2, set_get (fr3.get _ _ hM), (fr.trans fr3).fresh (Nat.le_refl _)⟩
          have : acc.length ≤ ws.length := by rw [e]; simp
          unfold sizeLine
          omega
      · rintro acc M2 ⟨ws2, e, hl, _, _, hM, fr⟩
        cases hl
        refine ok_nil ?_
        have tt : tupleA [.ref M.length] M2 = .ok (.tup acc) M2 := by simp [tupleA, seqA, hM]
        rw [tt]
        exact ⟨by rw [e]; simp, fr⟩
end K01
end
section
/-! k01, the plain side: is_whole, is_positive, is_place, is_pair, is_step. -/
namespace K01
open PySem AM L2 AP
def wholeT : AT → Bool
  | .int => true
  | _ => false
theorem ok_isa {v : AV} {M : AH} {vs : AM.Loc} {i : Nat} {t : AT} {b : Bool} {y : String} {Q : AV → AH → Prop} (hv : vs[i]? = some (some (.val v))) (h : tyA fns ws M v = some t) (e : isCls ws t (.ty y) = some b) (q : Q (.bl b) M) :
    OkR (argsC (isA2 fns ws) (consA (varC i) (consA (conC (.ty y)) nilA)) vs M) Q := by
  refine ok_args (ok_cons (ok_var (a := v) hv (ok_cons (ok_con (ok_nil ?_)))))
  rw [isA2_ty h e]
  exact q
theorem is_whole_ok {v : AV} {M : AH} {t : AT} (h : tyA fns ws M v = some t) : OkR (f_is_whole [.val v] M) fun a M' => a = .bl (wholeT t) ∧ M' = M := by
  refine ok_fn (ok_ret (ok_andC ?_))
  have e1 : ∃ b, isCls ws t (.ty "int") = some b ∧ (b = true → t = .int ∨ t = .bl) ∧ (b = false → wholeT t = false) := by
    cases t <;> exact ⟨_, rfl, by simp, by simp [wholeT]⟩
  obtain ⟨b, e1, h1, h2⟩ := e1
  refine ok_isa (v := v) rfl h e1 ⟨b, rfl, ?_⟩
  cases b with
  | false => exact ⟨by rw [h2 rfl], rfl⟩
  | true =>
    rcases h1 rfl with rfl | rfl
    · exact ok_notC (ok_isa (v := v) (b := false) rfl h rfl ⟨_, rfl, rfl, rfl⟩)
    · exact ok_notC (ok_isa (v := v) (b := true) rfl h rfl ⟨_, rfl, rfl, rfl⟩)
end K01
end
section
/-! k01, the plain side: is_positive, is_place, is_pair. -/
namespace K01
open PySem AM L2 AP
local macro_rules | `(tactic| and_intros) => `(tactic| repeat (first | (with_reducible first | refine ok_seq ?_ | refine ok_ret ?_ | refine ok_set ?_ | refine ok_drop ?_ | refine ok_con ?_ | refine ok_nil ?_ | refine ok_cons ?_ | refine ok_args ?_ | refine ok_bin ?_ | refine ok_un ?_ | refine ok_tru ?_ | refine ok_notT ?_ | refine ok_cmp ?_ | refine ok_par ?_ | refine ok_for ?_ | refine ok_skip ?_ | refine ok_notC ?_ | refine ok_ifC ?_ | refine ok_call ?_) | ((with_reducible apply ok_var); exact rfl)))
theorem isw_int {i : Int} {M : AH} : f_is_whole [.val (.int i)] M = .ok (.bl true) M := rfl
theorem isw_bl {i : Bool} {M : AH} : f_is_whole [.val (.bl i)] M = .ok (.bl false) M := rfl
theorem isw_tup {i : List AV} {M : AH} : f_is_whole [.val (.tup i)] M = .ok (.bl false) M := rfl
theorem isp_int {i : Int} {M : AH} : f_is_positive [.val (.int i)] M = .ok (.bl (decide (1 ≤ i))) M := rfl
theorem isp_bl {i : Bool} {M : AH} : f_is_positive [.val (.bl i)] M = .ok (.bl false) M := rfl
theorem ispl_int {i k : Int} {M : AH} : f_is_place [.val (.int i), .val (.int k)] M = .ok (.bl (decide (0 ≤ i) && decide (i < k))) M := by
  unfold f_is_place fnRun c_is_place
  refine Eq.trans (b := fnEnd (retC (chnC opLe opLt (conC (.int 0)) (varC 0) (varC 1)) (startL 2 [.val (.int i), .val (.int k)]) M)) rfl ?_
  cases h : decide (0 ≤ i) <;> simp [fnEnd, retC, chnC, conC, varC, startL, thenS, opLe, opLt, h]
theorem is_pair_ok {s n : Nat} {v : AV} {x y : Int} {M : AH} (I : Its s n v [.int x, .int y] M) : OkR (f_is_pair [.val v] M) fun a M' => a = .bl true ∧ M' = M := by
  obtain ⟨t, h1, h2⟩ := ty_its I
  refine ok_fn (ok_ret (andC_t ?_))
  and_intros
  refine ⟨rfl, okv (is_list_ok h1 h2) ⟨rfl, andC_t ?_⟩⟩
  and_intros
  refine okv (I.len (by simp; unfold sizeLine; decide)) ?_
  and_intros
  refine okv opEq_int ⟨rfl, andC_t ?_⟩
  and_intros
  refine okv (I.ix (x := .int x) rfl) ?_
  and_intros
  refine ⟨rfl, okv isw_int ⟨rfl, ?_⟩⟩
  and_intros
  refine okv (I.ix (x := .int y) rfl) ?_
  and_intros
  exact ⟨rfl, okv isw_int ⟨rfl, rfl⟩⟩
end K01
end
section
/-! k01, the plain side: is_step. -/
namespace K01
open PySem AM L2 AP
local macro_rules | `(tactic| and_intros) => `(tactic| repeat (first | (with_reducible first | refine ok_seq ?_ | refine ok_ret ?_ | refine ok_set ?_ | refine ok_drop ?_ | refine ok_con ?_ | refine ok_nil ?_ | refine ok_cons ?_ | refine ok_args ?_ | refine ok_bin ?_ | refine ok_un ?_ | refine ok_tru ?_ | refine ok_notT ?_ | refine ok_cmp ?_ | refine ok_par ?_ | refine ok_for ?_ | refine ok_skip ?_ | refine ok_notC ?_ | refine ok_ifC ?_ | refine ok_call ?_) | ((with_reducible apply ok_var); exact rfl)))
/-- a step as data -/
structure Stp where
  a : Int
  b : Int
  x : Int
  y : Int
  t : Int
  c : Int
  deriving DecidableEq
def Stp.am (s : Stp) : AV := .tup [.int s.x, .int s.y]
def Stp.av (s : Stp) : AV := .tup [.int s.a, .int s.b, s.am, .int s.t, .int s.c]
def stepB (p : Int) (s : Stp) : Bool := decide (0 ≤ s.a) && decide (s.a < p) && (decide (0 ≤ s.b) && decide (s.b < p)) && decide (1 ≤ s.t)
/-- v is the step, lists may stand for tuples -/
def StpIs (s n : Nat) (M : AH) (v : AV) (st : Stp) : Prop := ∃ va, Its s n v [.int st.a, .int st.b, va, .int st.t, .int st.c] M ∧ Its s n va [.int st.x, .int st.y] M
theorem StpIs.fr {s n : Nat} {M M' : AH} {v : AV} {st : Stp} (h : StpIs s n M v st) (f : Fr s n M M') : StpIs s n M' v st := by
  obtain ⟨va, h1, h2⟩ := h
  exact ⟨va, h1.fr f, h2.fr f⟩
theorem StpIs.av {s n : Nat} {M : AH} {st : Stp} : StpIs s n M st.av st := ⟨_, .inl rfl, .inl rfl⟩
theorem StpIs.of {s n : Nat} {M : AH} {v : AV} {st : Stp} (h : Like s n M v st.av) : StpIs s n M v st := by
  cases h with
  | seq I L =>
    cases L with
    | cons h1 L =>
    cases L with
    | cons h2 L =>
    cases L with
    | cons h3 L =>
    cases L with
    | cons h4 L =>
    cases L with
    | cons h5 L =>
    cases L
    cases h1; cases h2; cases h4; cases h5
    cases h3 with
    | seq I2 L2 =>
      cases L2 with
      | cons g1 L2 =>
      cases L2 with
      | cons g2 L2 =>
      cases L2
      cases g1; cases g2
      exact ⟨_, I, I2⟩
theorem is_step_no {v : AV} {t : AT} {p : Int} {M : AH} (h : tyA fns ws M v = some t) (e : isCls ws t LT = some false) : f_is_step [.val v, .val (.int p)] M = .ok (.bl false) M := by
  have h1 := is_list_ok h e
  have h2 : truC (callC 1 f_is_list (consA (varC 0) nilA)) (startL 2 [.val v, .val (.int p)]) M = .ok false M := by
    show (f_is_list [.val v] M).bind truA = _
    rw [h1]; rfl
  unfold f_is_step fnRun c_is_step seqC ifS orT notT
  rw [h2]
  rfl
theorem is_step_len {s n : Nat} {v : AV} {xs : List AV} {p : Int} {M : AH} (I : Its s n v xs M) (hl : xs.length ≤ sizeLine) (h5 : xs.length ≠ 5) : OkR (f_is_step [.val v, .val (.int p)] M) fun a M' => a = .bl false ∧ M' = M := by
  obtain ⟨t, h1, h2⟩ := ty_its I
  refine ok_fn (ok_seq (if_t (orT_f ?_)))
  and_intros
  refine ⟨rfl, okv (is_list_ok h1 h2) (okv (a := true) (M := M) rfl ⟨rfl, orT_t ?_⟩)⟩
  and_intros
  refine okv (I.len hl) ?_
  and_intros
  have : opNe (.int xs.length) (.int 5) M = .ok (.bl true) M := by
    unfold opNe
    rw [datS_int, datS_int]
    simp [PyData.eqv]
    omega
  refine okv this ⟨_, rfl, rfl, rfl, ?_⟩
  and_intros
  exact ⟨rfl, rfl⟩
theorem is_step_pl {s n : Nat} {v : AV} {a b va tv c : AV} {i j p : Int} {M : AH} {Q : AV → AH → Prop} (I : Its s n v [.int i, .int j, va, tv, c] M)
    (h : if (decide (0 ≤ i) && decide (i < p) && (decide (0 ≤ j) && decide (j < p))) = true then OkR ((andC (callC 1 f_is_pair (consA (bin2 opIx (varC 0) (conC (.int 2))) nilA)) (andC (callC 1 f_is_positive (consA (bin2 opIx (varC 0) (conC (.int 3))) nilA)) (callC 1 f_is_whole (consA (bin2 opIx (varC 0) (conC (.int 4))) nilA)))) (startL 2 [.val v, .val (.int p)]) M) Q else Q (.bl false) M) :
    OkR (f_is_step [.val v, .val (.int p)] M) Q := by
  obtain ⟨t, h1, h2⟩ := ty_its I
  refine ok_fn (ok_seq ?_)
  refine ok_if (orT_f ?_)
  and_intros
  refine ⟨rfl, okv (is_list_ok h1 h2) (okv (a := true) (M := M) rfl ⟨rfl, orT_f ?_⟩)⟩
  and_intros
  refine okv (I.len (by simp; unfold sizeLine; decide)) ?_
  and_intros
  have : opNe (.int 5) (.int 5) M = .ok (.bl false) M := by
    unfold opNe
    rw [datS_int]
    simp [PyData.eqv]
  refine okv this ⟨_, rfl, rfl, ?_⟩
  have p0 : notT (truC (callC 2 f_is_place (consA (bin2 opIx (varC 0) (conC (.int 0))) (consA (varC 1) nilA)))) (startL 2 [.val v, .val (.int p)]) M = .ok (!(decide (0 ≤ i) && decide (i < p))) M := by
    show ((((opIx v (.int 0) M).bind fun a M1 => (R.ok [a, .int p] M1)).bind fun as M1 => if as.length = 2 then f_is_place (as.map .val) M1 else .bad).bind truA).bind _ = _
    rw [I.ix (x := .int i) rfl, R.bind_ok, R.bind_ok]
    show ((f_is_place [.val (.int i), .val (.int p)] M).bind truA).bind _ = _
    rw [ispl_int]; rfl
  have p1 : notT (truC (callC 2 f_is_place (consA (bin2 opIx (varC 0) (conC (.int 1))) (consA (varC 1) nilA)))) (startL 2 [.val v, .val (.int p)]) M = .ok (!(decide (0 ≤ j) && decide (j < p))) M := by
    show ((((opIx v (.int 1) M).bind fun a M1 => (R.ok [a, .int p] M1)).bind fun as M1 => if as.length = 2 then f_is_place (as.map .val) M1 else .bad).bind truA).bind _ = _
    rw [I.ix (x := .int j) rfl, R.bind_ok, R.bind_ok]
    show ((f_is_place [.val (.int j), .val (.int p)] M).bind truA).bind _ = _
    rw [ispl_int]; rfl
  refine ok_orT (okv p0 ?_)
  cases e0 : (decide (0 ≤ i) && decide (i < p)) with
  | false =>
    rw [e0] at h
    show Q (.bl false) M
    simpa using h
  | true =>
    refine okv p1 ?_
    rw [e0] at h
    cases e1 : (decide (0 ≤ j) && decide (j < p)) with
    | false =>
      rw [e1] at h
      show Q (.bl false) M
      simpa using h
    | true =>
      rw [e1] at h
      exact ok_ret h
theorem is_step_ok {s n : Nat} {v : AV} {st : Stp} {p : Int} {M : AH} (I : StpIs s n M v st) : OkR (f_is_step [.val v, .val (.int p)] M) fun a M' => a = .bl (stepB p st) ∧ M' = M := by
  obtain ⟨va, I, I2⟩ := I
  refine is_step_pl (a := v) (b := v) I ?_
  unfold stepB
  split
  · rename_i e
    rw [e]
    refine andC_t ?_
    and_intros
    refine okv (I.ix (x := va) rfl) ?_
    and_intros
    refine ⟨rfl, (is_pair_ok I2).imp ?_⟩
    rintro a M' ⟨rfl, rfl⟩
    refine ⟨rfl, ok_andC ?_⟩
    and_intros
    refine okv (I.ix (x := .int st.t) rfl) ?_
    and_intros
    refine ⟨rfl, okv isp_int ⟨_, rfl, ?_⟩⟩
    cases decide (1 ≤ st.t) with
    | false => exact ⟨rfl, rfl⟩
    | true =>
      rw [if_pos rfl]
      and_intros
      refine okv (I.ix (x := .int st.c) rfl) ?_
      and_intros
      exact ⟨rfl, okv isw_int ⟨rfl, rfl⟩⟩
  · rename_i e
    exact ⟨by simp only [Bool.not_eq_true] at e; rw [e]; rfl, rfl⟩
/-- ticks True -/
theorem is_step_tr {s n : Nat} {v : AV} {st : Stp} {p : Int} {M : AH} (I : Its s n v [.int st.a, .int st.b, st.am, .bl true, .int st.c] M) : OkR (f_is_step [.val v, .val (.int p)] M) fun a M' => a = .bl false ∧ M' = M := by
  refine is_step_pl (a := v) (b := v) I ?_
  split
  · refine andC_t ?_
    and_intros
    refine okv (I.ix (x := st.am) rfl) ?_
    and_intros
    refine ⟨rfl, (is_pair_ok (s := s) (n := n) (x := st.x) (y := st.y) (.inl rfl)).imp ?_⟩
    rintro a M' ⟨rfl, rfl⟩
    refine ⟨rfl, andC_f ?_⟩
    and_intros
    refine okv (I.ix (x := .bl true) rfl) ?_
    and_intros
    exact ⟨rfl, okv isp_bl ⟨rfl, rfl, rfl⟩⟩
  · exact ⟨rfl, rfl⟩
end K01
end
section
/-! k01, the plain side: steps as data, as keys. -/
namespace K01
open PySem AM L2 AP
local macro_rules | `(tactic| and_intros) => `(tactic| repeat (first | (with_reducible first | refine ok_seq ?_ | refine ok_ret ?_ | refine ok_set ?_ | refine ok_drop ?_ | refine ok_con ?_ | refine ok_nil ?_ | refine ok_cons ?_ | refine ok_args ?_ | refine ok_bin ?_ | refine ok_un ?_ | refine ok_tru ?_ | refine ok_notT ?_ | refine ok_cmp ?_ | refine ok_par ?_ | refine ok_for ?_ | refine ok_skip ?_ | refine ok_notC ?_ | refine ok_ifC ?_ | refine ok_call ?_) | ((with_reducible apply ok_var); exact rfl)))
def Stp.pd (s : Stp) : PyData := .tuple [.int s.a, .int s.b, .tuple [.int s.x, .int s.y], .int s.t, .int s.c]
theorem dat_av {M : AH} {k : Nat} {s : Stp} : dat M (k + 3) s.av = some s.pd := rfl
theorem lay_pd {s : Stp} : PyData.canLay0 s.pd = true := by simp [Stp.pd, PyData.canLay0, PyData.canLayAll0]
theorem depth_pd {s : Stp} : PyData.depth s.pd = 2 := by simp [Stp.pd, PyData.depth, PyData.depthAll]
theorem lay_pds : ∀ ss : List Stp, PyData.canLayAll0 (ss.map Stp.pd) = true
  | [] => by simp [PyData.canLayAll0]
  | s :: ss => by simp [PyData.canLayAll0, lay_pd, lay_pds ss]
theorem depth_pds : ∀ ss : List Stp, PyData.depthAll (ss.map Stp.pd) ≤ 2
  | [] => by simp [PyData.depthAll]
  | s :: ss => by
    have := depth_pds ss
    simp [PyData.depthAll, depth_pd]
    omega
theorem datS_av {M : AH} {s : Stp} : datS M s.av = some s.pd := by
  unfold datS
  rw [dat_av (k := 37)]
  have h : SeqAt.shaped s.pd = true := by simp [SeqAt.shaped, lay_pd, depth_pd]
  show (if SeqAt.shaped s.pd = true then some s.pd else none) = _
  rw [if_pos h]
theorem datS_steps {M : AH} {i : Nat} {ss : List Stp} (h : M[i]? = some (.lst (ss.map Stp.av))) : datS M (.ref i) = some (.list (ss.map Stp.pd)) := by
  have e : dat M 40 (.ref i) = some (.list (ss.map Stp.pd)) := by
    show (match M[i]? with
      | some (.lst xs) => (datAll (dat M 39) xs).map PyData.list
      | some (.frz xs) => (datAll (dat M 39) xs).map PyData.list
      | _ => none) = _
    rw [h]
    show (datAll (dat M 39) (ss.map Stp.av)).map PyData.list = _
    rw [datAll_map (f := Stp.av) (g := Stp.pd) (fun x => dat_av (k := 36))]
    rfl
  unfold datS
  rw [e]
  have := depth_pds ss
  have s : SeqAt.shaped (.list (ss.map Stp.pd)) = true := by
    unfold SeqAt.shaped
    simp [PyData.canLay0, lay_pds, PyData.depth]
    omega
  show (if SeqAt.shaped (.list (ss.map Stp.pd)) = true then some (PyData.list (ss.map Stp.pd)) else none) = _
  rw [if_pos s]
theorem eqv_pd {s r : Stp} : PyData.eqv s.pd r.pd = decide (s = r) := by
  obtain ⟨a, b, x, y, t, c⟩ := s
  obtain ⟨a', b', x', y', t', c'⟩ := r
  simp only [Stp.pd, PyData.eqv, PyData.eqvAll, Bool.and_true, Stp.mk.injEq]
  rw [Bool.eq_iff_iff]
  simp only [Bool.and_eq_true, beq_iff_eq, decide_eq_true_eq]
  constructor
  · rintro ⟨h1, h2, ⟨h3, h4⟩, h5, h6⟩; exact ⟨h1, h2, h3, h4, h5, h6⟩
  · rintro ⟨h1, h2, h3, h4, h5, h6⟩; exact ⟨h1, h2, ⟨h3, h4⟩, h5, h6⟩
theorem any_pd {s : Stp} : ∀ ss : List Stp, ((ss.map Stp.pd).any fun z => PyData.eqv z s.pd) = decide (s ∈ ss)
  | [] => by simp
  | r :: ss => by
    have := any_pd (s := s) ss
    simp only [List.map_cons, List.any_cons, this, eqv_pd, List.mem_cons]
    by_cases h : r = s
    · simp [h]
    · have h2 : ¬ s = r := fun e => h e.symm
      simp [h, h2]
theorem in_list {M : AH} {i : Nat} {ss : List Stp} {s : Stp} (h : M[i]? = some (.lst (ss.map Stp.av))) (neg : Bool) : opIn neg s.av (.ref i) M = .ok (.bl (if neg then !decide (s ∈ ss) else decide (s ∈ ss))) M := by
  have d : isD (.ref i) M = false := isD_lst h
  unfold opIn
  rw [d]
  show opInS neg s.av (.ref i) M = _
  unfold opInS
  rw [datS_av, datS_steps h]
  simp only [any_pd]
theorem eq_nil {M : AH} {i j : Nat} {ss : List Stp} (h : M[i]? = some (.lst (ss.map Stp.av))) (g : M[j]? = some (.lst [])) : opEq (.ref i) (.ref j) M = .ok (.bl (decide (ss = []))) M := by
  unfold opEq
  rw [datS_steps h, datS_steps (ss := []) g]
  cases ss <;> simp [PyData.eqv, PyData.eqvAll]
theorem ne_nil {M : AH} {i j : Nat} {ss : List Stp} (h : M[i]? = some (.lst (ss.map Stp.av))) (g : M[j]? = some (.lst [])) : opNe (.ref i) (.ref j) M = .ok (.bl (!decide (ss = []))) M := by
  unfold opNe
  rw [datS_steps h, datS_steps (ss := []) g]
  cases ss <;> simp [PyData.eqv, PyData.eqvAll]
/-! dicts of steps -/
def Stp.key (s : Stp) : NestedKey := .tup [.num s.a, .num s.b, .tup [.num s.x, .num s.y], .num s.t, .num s.c]
theorem key_av {s : Stp} : s.av.key = some s.key := rfl
theorem key_inj {s r : Stp} : s.key = r.key ↔ s = r := by
  obtain ⟨a, b, x, y, t, c⟩ := s
  obtain ⟨a', b', x', y', t', c'⟩ := r
  simp [Stp.key, and_assoc]
def kvS (ss : List Stp) : List (AV × AV) := ss.map fun s => (s.av, .bl true)
theorem has_kv {s : Stp} : ∀ ss : List Stp, dhas (kvS ss) s.key = decide (s ∈ ss)
  | [] => by simp [dhas, kvS]
  | r :: ss => by
    have := has_kv (s := s) ss
    unfold dhas kvS at this ⊢
    simp only [List.map_cons, List.any_cons, this, key_av, Option.some.injEq, key_inj, List.mem_cons]
    by_cases h : r = s
    · simp [h]
    · have h2 : ¬ s = r := fun e => h e.symm
      simp [h, h2]
theorem dok_kv {s : Stp} (ss : List Stp) : dOk s.av s.key (kvS ss) = true := by
  have h1 : ((kvS ss).all fun p => isTp p.1) = true := by
    simp [kvS, isTp, Stp.av]
  have h2 : s.key.depth ≤ 8 := by simp [Stp.key, NestedKey.depth, NestedKey.depthAll]
  have h3 : isTp s.av = true := rfl
  simp [dOk, h1, h2, h3]
theorem in_dict {M : AH} {d : Nat} {ss : List Stp} {s : Stp} (h : M[d]? = some (.dct (kvS ss))) : opIn false s.av (.ref d) M = .ok (.bl (decide (s ∈ ss))) M := by
  have c : dctOf (.ref d) M = some (d, kvS ss) := by simp [dctOf, h]
  have i : isD (.ref d) M = true := by simp [isD, c]
  unfold opIn
  rw [if_pos i]
  unfold dInA dk2
  rw [c, key_av]
  simp only [dok_kv, if_true, has_kv]
  rfl
theorem put_dictA {M : AH} {d : Nat} {ss : List Stp} {s : Stp} (h : M[d]? = some (.dct (kvS ss))) (hl : ss.length < 1000000) : ∃ rs, dPutA (.ref d) s.av (.bl true) M = .ok () (M.set d (.dct (kvS rs))) ∧ rs.length ≤ ss.length + 1 ∧ ∀ r, r ∈ rs ↔ r ∈ ss ∨ r = s := by
  have c : dctOf (.ref d) M = some (d, kvS ss) := by simp [dctOf, h]
  have l : (kvS ss).length < sizeLine := by simp [kvS]; unfold sizeLine; omega
  unfold dPutA dk2
  rw [c, key_av]
  simp only [dok_kv, if_true, if_pos l]
  unfold dput
  rw [has_kv]
  by_cases q : s ∈ ss
  · refine ⟨ss, ?_, by omega, fun r => ⟨.inl, fun h => h.elim id fun e => by rw [e]; exact q⟩⟩
    rw [if_pos (by simpa using q)]
    have : ((kvS ss).map fun p => if p.1.key = some s.key then (p.1, AV.bl true) else p) = kvS ss := by
      unfold kvS
      rw [List.map_map]
      refine List.map_congr_left fun r _ => ?_
      simp only [Function.comp]
      split <;> rfl
    rw [this]
  · refine ⟨ss ++ [s], ?_, by simp, fun r => by simp⟩
    rw [if_neg (by simpa using q)]
    simp [kvS]
theorem put_dict {M : AH} {d : Nat} {ss : List Stp} {s : Stp} (h : M[d]? = some (.dct (kvS ss))) (hl : ss.length < 1000000) : ∃ rs, setA (.ref d) s.av (.bl true) M = .ok () (M.set d (.dct (kvS rs))) ∧ rs.length ≤ ss.length + 1 ∧ ∀ r, r ∈ rs ↔ r ∈ ss ∨ r = s := by
  have c : dctOf (.ref d) M = some (d, kvS ss) := by simp [dctOf, h]
  have i : isD (.ref d) M = true := by simp [isD, c]
  unfold setA
  rw [if_pos i]
  exact put_dictA h hl
end K01
end
section
/-! k01, the plain side: first_bad. -/
namespace K01
open PySem AM L2 AP
local macro_rules | `(tactic| and_intros) => `(tactic| repeat (first | (with_reducible first | refine ok_seq ?_ | refine ok_ret ?_ | refine ok_set ?_ | refine ok_drop ?_ | refine ok_con ?_ | refine ok_nil ?_ | refine ok_cons ?_ | refine ok_args ?_ | refine ok_bin ?_ | refine ok_un ?_ | refine ok_tru ?_ | refine ok_notT ?_ | refine ok_cmp ?_ | refine ok_par ?_ | refine ok_for ?_ | refine ok_skip ?_ | refine ok_notC ?_ | refine ok_ifC ?_ | refine ok_call ?_) | ((with_reducible apply ok_var); exact rfl)))
theorem ok_turn2 {N : AM.Loc → AH → Prop} {T : AV → AH → Prop} {vs : AM.Loc} {M : AH} {i j : Nat} {b : CS} {x y : AV} (h : OkS (b ((vs.set i (some (.val x))).set j (some (.val y))) M) N T) : OkS (turnC (tupG 2 (consG (nameG i) (consG (nameG j) nilG))) b (.tup [x, y]) vs M) N T := h
theorem ok_clo {vs : AM.Loc} {M : AH} {kx k i : Nat} {F : List AV → AH → R AV} {r : CA} {Q : AV → AH → Prop} (hv : vs[i]? = some (some (.clo k F))) (hk : k ≤ kx) (h : OkR (r vs M) fun as M1 => OkR (F as M1) Q) : OkR (cloC kx i r vs M) Q := by
  unfold cloC
  rw [hv]
  simp only [if_pos hk]
  exact OkR.bind h
theorem ok_fld {N : AM.Loc → AH → Prop} {T : AV → AH → Prop} {vs : AM.Loc} {M : AH} {c f : Str} {co cv : CE} (h : OkR (cv vs M) fun v M1 => OkR (co vs M1) fun o M2 => OkR (setF c f o v M2) fun _ M3 => N vs M3) : OkS (fldS c f co cv vs M) N T :=
  ok_then (OkR.bind (h.imp fun v M1 z => OkR.bind z))
def stps (s n : Nat) (M : AH) (vs : List AV) (ss : List Stp) : Prop := LikeL s n M vs (ss.map Stp.av)
theorem dp_av {st : Stp} : dpA st.av < 30 := by simp [Stp.av, Stp.am, dpA, dpL]
theorem sm_av {st : Stp} : smA st.av = true := by simp [Stp.av, Stp.am, smA, smL]
theorem as_av {s n : Nat} {M : AH} {v : AV} {st : Stp} (h : Like s n M v st.av) : OkR (f_as_tuples 30 [.val v] M) fun a M' => a = st.av ∧ Grw M M' := as_tuples_ok 30 h dp_av sm_av
theorem first_bad_ok {s n k : Nat} {a : AV} {vs : List AV} {ss : List Stp} {F : List AV → AH → R AV} {M : AH} (I : Its s n a vs M) (L : stps s n M vs ss) (nd : ss.Nodup) (hl : ss.length < 1000000) (hk : k ≤ 32)
    (hF : ∀ v st M', st ∈ ss → Grw M M' → Like s n M' v st.av → OkR (F [v] M') fun r M2 => r = .bl true ∧ M2 = M') :
    OkR (f_first_bad [.val a, .clo k F] M) fun r M' => r = .non ∧ Grw M M' := by
  obtain ⟨t, h1, h2⟩ := ty_its I
  refine ok_fn (ok_seq (if_f ?_))
  and_intros
  refine ⟨rfl, okv (is_list_ok h1 h2) (okv (a := true) (M := M) rfl ⟨rfl, ?_⟩)⟩
  and_intros
  refine okv (a := .ref M.length) (M := M ++ [.dct []]) rfl ?_
  and_intros
  have I1 : Its s n a vs (M ++ [.dct []]) := I.ext Grw.app
  obtain ⟨it, hw, w⟩ := I1.walk
  have he : enumA [a] (M ++ [.dct []]) = .ok ⟨enumFrom 0 it.items, it.guard⟩ (M ++ [.dct []]) := by
    simp only [enumA, hw]
  refine OkR.bind ?_
  and_intros
  refine okv he ?_
  rw [w.items]
  refine OkS.imp (ok_loop (N := fun _ M' => Grw M M') (T := fun _ _ => False) (fun rest vs' M' => ∃ (j : Nat) (zs : List AV) (done todo rs : List Stp) (q1 q2 : Option SV), rest = enumFrom j zs ∧ LikeL s n M zs (todo.map Stp.av) ∧ ss = done ++ todo ∧ M'[M.length]? = some (.dct (kvS rs)) ∧ rs.length ≤ done.length ∧ (∀ r, r ∈ rs ↔ r ∈ done) ∧ Grw M M' ∧ vs' = [some (.val a), some (.clo k F), some (.val (.ref M.length)), q1, q2])
    ?ok ?step ?fin _ _ _ ⟨0, vs, [], ss, [], none, none, rfl, L, rfl, by simp [kvS], by simp, by simp, Grw.app, rfl⟩) ?after ?no
  case ok =>
    rintro xs vs' M' ⟨_, _, _, _, _, _, _, _, _, _, _, _, _, g, _⟩
    exact w.ok _ (I.ext g)
  case fin =>
    rintro vs' M' ⟨_, _, _, _, _, _, _, _, _, _, _, _, _, g, _⟩
    exact g
  case after =>
    rintro vs' M' g
    and_intros
    exact ⟨rfl, g⟩
  case no => exact fun _ _ z => z.elim
  case step =>
    rintro x rest vs' M' ⟨j, zs, done, todo, rs, q1, q2, e, L', hs, hd, hlen, hm, g, rfl⟩
    cases zs with
    | nil => cases e
    | cons v zs =>
      obtain ⟨rfl, rfl⟩ := List.cons.inj e
      cases todo with
      | nil => cases L'
      | cons st todo =>
        cases L' with
        | cons hv L' =>
        have hmem : st ∈ ss := by rw [hs]; simp
        refine ok_turn2 (ok_seq (if_f (orT_f ?_)))
        and_intros
        refine ok_clo rfl hk ?_
        and_intros
        refine (hF v st M' hmem g (Like.fr g.fr hv)).imp ?_
        rintro r M2 ⟨rfl, rfl⟩
        refine okv (a := true) (M := M2) rfl ⟨rfl, ?_⟩
        and_intros
        refine ⟨rfl, (as_av (Like.fr g.fr hv)).imp ?_⟩
        rintro r M3 ⟨rfl, g3⟩
        and_intros
        have nin : ¬ st ∈ rs := by
          rw [hm]
          intro z
          rw [hs] at nd
          exact (List.nodup_append.mp nd).2.2 st z st (List.mem_cons_self ..) rfl
        refine okv (in_dict (g3.get _ _ hd)) ⟨_, rfl, by simp [nin], ?_⟩
        and_intros
        refine ok_asg ?_
        and_intros
        refine ok_sub ?_
        and_intros
        refine ⟨rfl, (as_av (Like.fr (g.trans g3).fr hv)).imp ?_⟩
        rintro r M4 ⟨rfl, g4⟩
        have hd4 := g4.get _ _ (g3.get _ _ hd)
        have hb : rs.length < 1000000 := by
          have : done.length ≤ ss.length := by rw [hs]; simp
          omega
        obtain ⟨rs', e5, l5, m5⟩ := put_dict (s := st) hd4 hb
        refine okv e5 ?_
        have gg : Grw M (M4.set M.length (.dct (kvS rs'))) := ((g.trans g3).trans g4).fresh (Nat.le_refl _)

        exact ⟨j + 1, zs, done ++ [st], todo, rs', _, _, rfl, L', by rw [hs]; simp, set_get hd4, by simp; omega, fun r => by rw [m5, hm]; simp, gg, rfl⟩
end K01
end
section
/-! k01, the plain side: Web.__init__. -/
namespace K01
open PySem AM L2 AP
local macro_rules | `(tactic| and_intros) => `(tactic| repeat (first | (with_reducible first | refine ok_seq ?_ | refine ok_ret ?_ | refine ok_set ?_ | refine ok_drop ?_ | refine ok_con ?_ | refine ok_nil ?_ | refine ok_cons ?_ | refine ok_args ?_ | refine ok_bin ?_ | refine ok_un ?_ | refine ok_tru ?_ | refine ok_notT ?_ | refine ok_cmp ?_ | refine ok_par ?_ | refine ok_for ?_ | refine ok_skip ?_ | refine ok_notC ?_ | refine ok_ifC ?_ | refine ok_call ?_) | ((with_reducible apply ok_var); exact rfl)))
theorem perm_map {α β : Type} {f : α → β} {l m : List β} (h : l.Perm m) : ∀ xs : List α, m = xs.map f → ∃ ys : List α, l = ys.map f ∧ ys.Perm xs := by
  induction h with
  | nil => exact fun xs e => ⟨xs, e, List.Perm.refl _⟩
  | cons x _ ih =>
    intro xs e
    cases xs with
    | nil => cases e
    | cons y xs =>
      obtain ⟨e1, e2⟩ := List.cons.inj e
      obtain ⟨ys, h1, h2⟩ := ih xs e2
      exact ⟨y :: ys, by rw [e1, h1]; rfl, h2.cons y⟩
  | swap x y l =>
    intro xs e
    match xs, e with
    | a :: b :: xs, e =>
      obtain ⟨e1, e2⟩ := List.cons.inj e
      obtain ⟨e2, e3⟩ := List.cons.inj e2
      exact ⟨b :: a :: xs, by rw [e1, e2, e3]; rfl, List.Perm.swap _ _ _⟩
  | trans _ _ ih1 ih2 =>
    intro xs e
    obtain ⟨ys, h1, h2⟩ := ih2 xs e
    obtain ⟨zs, h3, h4⟩ := ih1 ys h1
    exact ⟨zs, h3, h4.trans h2⟩
theorem alike_pd {s r : Stp} : PySem.W.alike s.pd r.pd = true := by simp [Stp.pd, PySem.W.alike, PySem.W.alikeAll]
theorem sort_ok {M : AH} (ss : List Stp) : sortOk M (ss.map Stp.av) = true := by
  have h1 : ((ss.map Stp.av).all fun x => (datS M x).isSome) = true := by simp [datS_av]
  have h2 : ((ss.map Stp.av).all fun x => (ss.map Stp.av).all fun y => PySem.W.alike (datK M x) (datK M y)) = true := by simp [datK, datS_av, alike_pd]
  have h3 : ((ss.map Stp.av).all fun x => tupB (datK M x)) = true := by simp [datK, datS_av, Stp.pd, tupB]
  unfold sortOk
  rw [h1, h2, h3]
  rfl
theorem sorted_ok {M : AH} {i : Nat} {ss : List Stp} (h : M[i]? = some (.lst (ss.map Stp.av))) (hl : ss.length < 1000000) : ∃ rs : List Stp, sortedA [.ref i] M = .ok (.ref M.length) (M ++ [.lst (rs.map Stp.av)]) ∧ rs.Perm ss := by
  obtain ⟨rs, e, p⟩ := perm_map (List.mergeSort_perm (ss.map Stp.av) (PySem.W.dataLe false (datK M))) ss rfl
  refine ⟨rs, ?_, p⟩
  have l : lstOf (.ref i) M = some (ss.map Stp.av) := by simp [lstOf, h]
  have hl2 : (ss.map Stp.av).length ≤ sizeLine := by simp; unfold sizeLine; omega
  have hl3 : (rs.map Stp.av).length ≤ sizeLine := by simp [p.length_eq]; unfold sizeLine; omega
  unfold sortedA
  simp only [l, if_pos (And.intro (sort_ok (M := M) ss) hl2)]
  unfold sortA
  rw [e]
  unfold newL
  rw [if_pos hl3]
/-- a comprehension over steps in a loose form -/
theorem ok_lcT {s n : Nat} {vs : AM.Loc} {M : AH} {a : AV} {i j : Nat} {zs : List AV} {ss : List Stp} {Q : AV → AH → Prop} (I : Its s n a zs M) (L : stps s n M zs ss) (hl : ss.length < 1000000) (hi : vs[i]? = some (some (.val a))) (hj : j < vs.length)
    (h : ∀ M', Grw M M' → M'[M.length]? = some (.lst (ss.map Stp.av)) → Q (.ref M.length) M') :
    OkR (lcC [j] (valI (varC i)) (nameG j) yesT (callC 1 (f_as_tuples 30) (consA (varC j) nilA)) vs M) Q := by
  refine ok_lc (I.val (c := varC i) (by unfold varC; rw [hi]) fun it w => ?_)
  rw [w.items]
  refine ok_lcL (fun acc rest M2 => ∃ done todo, ss = done ++ todo ∧ LikeL s n M rest (todo.map Stp.av) ∧ acc = done.map Stp.av ∧ M2[M.length]? = some (.lst acc) ∧ Grw M M2) (fun acc rest M2 ⟨_, _, _, _, _, _, fr⟩ => w.ok _ (I.ext fr)) ?_ ?_ zs [] _ ⟨[], ss, rfl, L, rfl, by simp, Grw.app⟩
  · rintro acc x rest M2 ⟨done, todo, e, L', rfl, hd, g⟩
    cases todo with
    | nil => cases L'
    | cons st todo =>
      cases L' with
      | cons hv L' =>
      refine ⟨_, rfl, ok_call (ok_cons (ok_var (a := x) ?_ (ok_nil ⟨rfl, (as_av (Like.fr g.fr hv)).imp ?_⟩)))⟩
      · simp only [wipeL]
        rw [List.getElem?_set_self (by simpa using hj)]
      rintro r M3 ⟨rfl, g3⟩
      refine ⟨?_, g3.get _ _ hd, done ++ [st], todo, by rw [e]; simp, L', by simp, set_get (g3.get _ _ hd), (g.trans g3).fresh (Nat.le_refl _)⟩
      have : done.length ≤ ss.length := by rw [e]; simp
      simp
      unfold sizeLine
      omega
  · rintro acc M2 ⟨done, todo, e, L', rfl, hd, g⟩
    cases todo with
    | cons _ _ => cases L'
    | nil =>
      rw [List.append_nil] at e
      subst e
      exact h M2 g hd
/-- a web stands at w -/
def WebIs (p : Int) (rs : List Stp) (w j : Nat) (M : AH) : Prop := M[w]? = some (.ins "Web" [("own_places", .int p), ("own_steps", .ref j)]) ∧ M[j]? = some (.lst (rs.map Stp.av))
theorem init_okW {s n : Nat} {p : Int} {a : AV} {zs : List AV} {ss : List Stp} {M : AH} (I : Its s n a zs M) (L : stps s n M zs ss) (nd : ss.Nodup) (hl : ss.length < 1000000) (hp : 1 ≤ p) (ho : ∀ st ∈ ss, stepB p st = true) :
    OkR (f_Web_init [.val (.ref M.length), .val (.int p), .val a] (M ++ [.ins "Web" []])) fun r M' => r = .non ∧ Grw M M' ∧ ∃ (rs : List Stp) (j : Nat), rs.Perm ss ∧ j ≠ M.length ∧ WebIs p rs M.length j M' ∧ M.length < j := by
  refine ok_fn (ok_seq (if_f ?_))
  and_intros
  refine ⟨rfl, okv isp_int (okv (a := true) (M := M ++ [.ins "Web" []]) (by simp [truA, hp]) ⟨rfl, ?_⟩)⟩
  and_intros
  have g0 : Grw M (M ++ [.ins "Web" []]) := Grw.app
  have w0 : (M ++ [.ins "Web" []])[M.length]? = some (.ins "Web" []) := by simp
  generalize hM : M ++ [AO.ins "Web" []] = M0 at g0 w0
  have hlen : M.length < M0.length := get_lt w0
  have e1 : callX 2 f_first_bad (consX (varC 2) (consL 4 1 [1] (callC 2 f_is_step (consA (varC 0) (consA (varC 1) nilA))) nilX)) (startL 5 [.val (.ref M.length), .val (.int p), .val a]) M0
      = f_first_bad [.val a, .clo 5 (lamF 1 [1] (startL 5 [.val (.ref M.length), .val (.int p), .val a]) (callC 2 f_is_step (consA (varC 0) (consA (varC 1) nilA))))] M0 := rfl
  rw [e1]
  refine (first_bad_ok (I.ext g0) (LikeL.fr g0.fr L) nd hl (by decide) ?_).imp ?_
  · intro v st M1 hst _ hv
    show OkR (f_is_step [.val v, .val (.int p)] M1) _
    refine (is_step_ok (StpIs.of hv)).imp ?_
    rintro r M2 ⟨rfl, rfl⟩
    exact ⟨by rw [ho st hst], rfl⟩
  rintro r M1 ⟨rfl, g1⟩
  refine ok_seq (if_f ?_)
  and_intros
  refine okv (a := .bl false) (M := M1) rfl ⟨_, rfl, rfl, ?_⟩
  and_intros
  refine ok_fld ?_
  and_intros
  have w1 := g1.get _ _ w0
  have e2 : setF "Web" "own_places" (.ref M.length) (.int p) M1 = .ok () (M1.set M.length (.ins "Web" [("own_places", .int p)])) := by
    simp [setF, w1, putA]
  refine okv e2 (ok_fld ?_)
  have g2 : Grw M (M1.set M.length (.ins "Web" [("own_places", .int p)])) := (g0.trans g1).fresh (Nat.le_refl _)
  have w2 : (M1.set M.length (.ins "Web" [("own_places", .int p)]))[M.length]? = some (.ins "Web" [("own_places", .int p)]) := set_get w1
  generalize M1.set M.length (.ins "Web" [("own_places", .int p)]) = M2 at g2 w2
  and_intros
  refine ok_lcT (I.ext g2) (LikeL.fr g2.fr L) hl rfl (by simp [startL]) ?_
  intro M3 g3 h3
  and_intros
  obtain ⟨rs, e4, p4⟩ := sorted_ok h3 hl
  refine okv e4 ?_
  and_intros
  have w4 : (M3 ++ [AO.lst (rs.map Stp.av)])[M.length]? = some (.ins "Web" [("own_places", .int p)]) := app_get (g3.get _ _ w2)
  have h4 : (M3 ++ [AO.lst (rs.map Stp.av)])[M3.length]? = some (.lst (rs.map Stp.av)) := by simp
  have lt3 : M.length < M3.length := get_lt (g3.get _ _ w2)
  have e5 : setF "Web" "own_steps" (.ref M.length) (.ref M3.length) (M3 ++ [AO.lst (rs.map Stp.av)]) = .ok () ((M3 ++ [AO.lst (rs.map Stp.av)]).set M.length (.ins "Web" [("own_places", .int p), ("own_steps", .ref M3.length)])) := by
    unfold setF
    simp only [w4]
    rfl
  refine okv e5 ⟨rfl, ((g2.trans g3).trans Grw.app).fresh (Nat.le_refl _), rs, M3.length, p4, by omega, ⟨set_get w4, ?_⟩, lt3⟩
  rw [set_ne (by omega)]
  exact h4
end K01
end
end

section
set_option Elab.async false
set_option linter.all false
set_option autoImplicit false
set_option maxRecDepth 100000
set_option maxHeartbeats 4000000
section
/-! k01, the plain side: is_walk, its parts. -/
namespace K01
open PySem AM L2 AP
local macro_rules | `(tactic| and_intros) => `(tactic| repeat (first | (with_reducible first | refine ok_seq ?_ | refine ok_ret ?_ | refine ok_set ?_ | refine ok_drop ?_ | refine ok_con ?_ | refine ok_nil ?_ | refine ok_cons ?_ | refine ok_args ?_ | refine ok_bin ?_ | refine ok_un ?_ | refine ok_tru ?_ | refine ok_notT ?_ | refine ok_cmp ?_ | refine ok_par ?_ | refine ok_for ?_ | refine ok_skip ?_ | refine ok_notC ?_ | refine ok_ifC ?_ | refine ok_call ?_) | ((with_reducible apply ok_var); exact rfl)))
/-- a part of what may be a walk: a step in a loose form, or none -/
def PartR (s n : Nat) (p : Int) (M : AH) (v : AV) (o : Option Stp) : Prop := match o with
  | some st => Like s n M v st.av
  | none => ∀ M', Grw M M' → OkR (f_is_step [.val v, .val (.int p)] M') fun r M2 => r = .bl false ∧ M2 = M'
def okO (p : Int) : Option Stp → Bool
  | some st => stepB p st
  | none => false
def inO (rs : List Stp) : Option Stp → Bool
  | some st => decide (st ∈ rs)
  | none => false
def joinB : List Stp → Bool
  | s :: r :: t => decide (s.b = r.a) && joinB (r :: t)
  | _ => true
theorem fld_places {w j : Nat} {p : Int} {rs : List Stp} {M : AH} (h : WebIs p rs w j M) : fldA "Web" "own_places" (.ref w) M = .ok (.int p) M := by
  simp only [fldA, h.1]
  rfl
theorem fld_steps {w j : Nat} {p : Int} {rs : List Stp} {M : AH} (h : WebIs p rs w j M) : fldA "Web" "own_steps" (.ref w) M = .ok (.ref j) M := by
  simp only [fldA, h.1]
  rfl
theorem WebIs.fr {s n w j : Nat} {p : Int} {rs : List Stp} {M M' : AH} (h : WebIs p rs w j M) (f : Fr s n M M') (h1 : w ≠ s) (h2 : w ≠ n) (h3 : j ≠ s) (h4 : j ≠ n) : WebIs p rs w j M' := ⟨f.get _ _ h1 h2 h.1, f.get _ _ h3 h4 h.2⟩
theorem WebIs.ext {w j : Nat} {p : Int} {rs : List Stp} {M M' : AH} (h : WebIs p rs w j M) (f : Grw M M') : WebIs p rs w j M' := ⟨f.get _ _ h.1, f.get _ _ h.2⟩
/-- {step: True for step in web.own_steps} -/
theorem ok_dcS {w j : Nat} {p : Int} {rs : List Stp} {vs : AM.Loc} {M : AH} {Q : AV → AH → Prop} (h : WebIs p rs w j M) (hv : vs[0]? = some (some (.val (.ref w)))) (h2 : 2 < vs.length) (hl : rs.length < 1000000)
    (he : ∀ M' rs', Grw M M' → M'[M.length]? = some (.dct (kvS rs')) → (∀ r, r ∈ rs' ↔ r ∈ rs) → Q (.ref M.length) M') :
    OkR (dcC [2] (valI (un1 (fldA "Web" "own_steps") (varC 0))) (nameG 2) yesT (varC 2) (conC (.bl true)) vs M) Q := by
  have e1 : valI (un1 (fldA "Web" "own_steps") (varC 0)) vs M = .ok ⟨rs.map Stp.av, [(j, rs.map Stp.av)]⟩ M := by
    have v0 : varC 0 vs M = .ok (.ref w) M := by unfold varC; rw [hv]
    simp only [valI, un1, v0, R.bind_ok, fld_steps h, iterA, walkA, h.2]
  refine OkR.bind ?_
  refine okv e1 ?_
  have key : ∀ (todo done ds : List Stp) (M2 : AH), rs = done ++ todo → M2[M.length]? = some (.dct (kvS ds)) → ds.length ≤ done.length → (∀ r, r ∈ ds ↔ r ∈ done) → Grw M M2 →
      OkR (dcL ⟨rs.map Stp.av, [(j, rs.map Stp.av)]⟩ M.length [2] (nameG 2) yesT (varC 2) (conC (.bl true)) vs (todo.map Stp.av) M2) Q := by
    intro todo
    induction todo with
    | nil =>
      intro done ds M2 e hd hl2 hm g
      have ok : (IT.mk (rs.map Stp.av) [(j, rs.map Stp.av)]).ok M2 = true := by
        have := (Its.walk (s := M.length + j + 1) (n := M.length + j + 2) (.inr ⟨j, rfl, by omega, by omega, h.2⟩))
        obtain ⟨it, hw, w⟩ := this
        simp only [walkA, h.2, Option.some.injEq] at hw
        rw [hw]
        exact w.ok _ (.inr ⟨j, rfl, by omega, by omega, g.get _ _ h.2⟩)
      show OkR (if _ then _ else _) Q
      rw [if_pos ok]
      rw [List.append_nil] at e
      exact he M2 ds g hd (by rw [e]; exact hm)
    | cons st todo ih =>
      intro done ds M2 e hd hl2 hm g
      have ok : (IT.mk (rs.map Stp.av) [(j, rs.map Stp.av)]).ok M2 = true := by
        have := (Its.walk (s := M.length + j + 1) (n := M.length + j + 2) (.inr ⟨j, rfl, by omega, by omega, h.2⟩))
        obtain ⟨it, hw, w⟩ := this
        simp only [walkA, h.2, Option.some.injEq] at hw
        rw [hw]
        exact w.ok _ (.inr ⟨j, rfl, by omega, by omega, g.get _ _ h.2⟩)
      have hdl : done.length ≤ rs.length := by rw [e]; simp
      obtain ⟨ds', e5, l5, m5⟩ := put_dictA (s := st) hd (by omega)
      show OkR (if _ then _ else _) Q
      rw [if_pos ok]
      have v2 : varC 2 ((wipeL vs [2]).set 2 (some (.val st.av))) M2 = .ok st.av M2 := by
        unfold varC
        rw [List.getElem?_set_self (by simpa [wipeL] using h2)]
      show OkR (thenR (varC 2 ((wipeL vs [2]).set 2 (some (.val st.av))) M2) _) Q
      rw [v2]
      show OkR (putD M.length st.av (.bl true) M2 _) Q
      unfold putD
      rw [e5]
      exact ih (done ++ [st]) ds' _ (by rw [e]; simp) (set_get hd) (by simp; omega) (fun r => by rw [m5, hm]; simp) (g.fresh (Nat.le_refl _))
  exact key rs [] [] _ rfl (by simp [kvS]) (by simp) (by simp) Grw.app
end K01
end
section
/-! k01, the plain side: is_walk. -/
namespace K01
open PySem AM L2 AP
local macro_rules | `(tactic| and_intros) => `(tactic| repeat (first | (with_reducible first | refine ok_seq ?_ | refine ok_ret ?_ | refine ok_set ?_ | refine ok_drop ?_ | refine ok_con ?_ | refine ok_nil ?_ | refine ok_cons ?_ | refine ok_args ?_ | refine ok_bin ?_ | refine ok_un ?_ | refine ok_tru ?_ | refine ok_notT ?_ | refine ok_cmp ?_ | refine ok_par ?_ | refine ok_for ?_ | refine ok_skip ?_ | refine ok_notC ?_ | refine ok_ifC ?_ | refine ok_call ?_) | ((with_reducible apply ok_var); exact rfl)))
theorem unmap2 {α β γ : Type} {R : α → γ → Prop} {f : β → γ} : ∀ {xs : List α} {ys : List β}, All2 R xs (ys.map f) → All2 (fun x y => R x (f y)) xs ys
  | [], [], _ => .nil
  | x :: xs, y :: ys, .cons h t => .cons h (unmap2 t)
theorem like2 {s n : Nat} {M : AH} : ∀ {vs ws : List AV}, LikeL s n M vs ws → All2 (Like s n M) vs ws
  | _, _, .nil => .nil
  | _, _, .cons h t => .cons h (like2 t)
theorem stps2 {s n : Nat} {M : AH} {vs : List AV} {ss : List Stp} (h : stps s n M vs ss) : All2 (fun v st => Like s n M v st.av) vs ss := unmap2 (like2 h)
theorem All2.tail {α β : Type} {R : α → β → Prop} {xs : List α} {ys : List β} (h : All2 R xs ys) : All2 R xs.tail ys.tail := by
  cases h with
  | nil => exact .nil
  | cons _ t => exact t
theorem All2.zip {α : Type} {R : AV → α → Prop} {S : AV → α × α → Prop} (k : ∀ x y a b, R x a → R y b → S (.tup [x, y]) (a, b)) : ∀ {xs zs : List AV} {as bs : List α}, All2 R xs as → All2 R zs bs → All2 S (List.zipWith (fun x y => AV.tup [x, y]) xs zs) (as.zip bs)
  | _, _, _, _, .nil, _ => .nil
  | _, _, _, _, .cons _ _, .nil => .nil
  | _, _, _, _, .cons h t, .cons h2 t2 => .cons (k _ _ _ _ h h2) (All2.zip k t t2)
theorem join_zip : ∀ ss : List Stp, ((ss.zip ss.tail).map fun q => decide (q.1.b = q.2.a)).all id = joinB ss
  | [] => rfl
  | [s] => rfl
  | s :: r :: t => by
    have := join_zip (r :: t)
    simp only [List.tail_cons] at this
    simp only [List.tail_cons, List.zip_cons_cons, List.map_cons, List.all_cons, this, joinB, id]
end K01
end
section
/-! k01, the plain side: the law's same. -/
namespace K01
open PySem AM L2 AP
local macro_rules | `(tactic| and_intros) => `(tactic| repeat (first | (with_reducible first | refine ok_seq ?_ | refine ok_ret ?_ | refine ok_set ?_ | refine ok_drop ?_ | refine ok_con ?_ | refine ok_nil ?_ | refine ok_cons ?_ | refine ok_args ?_ | refine ok_bin ?_ | refine ok_un ?_ | refine ok_tru ?_ | refine ok_notT ?_ | refine ok_cmp ?_ | refine ok_par ?_ | refine ok_for ?_ | refine ok_skip ?_ | refine ok_notC ?_ | refine ok_ifC ?_ | refine ok_call ?_) | ((with_reducible apply ok_var); exact rfl)))
def LTD : AV := .tup [.ty "list", .ty "tuple", .ty "dict"]
theorem ltd_ok {v : AV} {M : AH} {vs : AM.Loc} {i : Nat} {t : AT} {b : Bool} (hv : vs[i]? = some (some (.val v))) (h : tyA fns ws M v = some t) (e : isCls ws t LTD = some b) :
    argsC (isA2 fns ws) (consA (varC i) (consA (argsC tupA (consA (conC (.ty "list")) (consA (conC (.ty "tuple")) (consA (conC (.ty "dict")) nilA)))) nilA)) vs M = .ok (.bl b) M := by
  have v1 : varC i vs M = .ok v M := by unfold varC; rw [hv]
  have tt : tupA [.ty "list", .ty "tuple", .ty "dict"] M = .ok LTD M := by unfold tupA; exact if_pos (by simp; unfold sizeLine; decide)
  have a : consA (varC i) (consA (argsC tupA (consA (conC (.ty "list")) (consA (conC (.ty "tuple")) (consA (conC (.ty "dict")) nilA)))) nilA) vs M = .ok [v, LTD] M := by
    simp only [consA, argsC, nilA, conC, v1, R.bind_ok, tt]
  show (consA (varC i) (consA (argsC tupA (consA (conC (.ty "list")) (consA (conC (.ty "tuple")) (consA (conC (.ty "dict")) nilA)))) nilA) vs M).bind (isA2 fns ws) = _
  rw [a, R.bind_ok]
  exact isA2_tup h e
theorem isa_ok {v : AV} {M : AH} {vs : AM.Loc} {i : Nat} {t : AT} {b : Bool} {y : String} (hv : vs[i]? = some (some (.val v))) (h : tyA fns ws M v = some t) (e : isCls ws t (.ty y) = some b) :
    argsC (isA2 fns ws) (consA (varC i) (consA (conC (.ty y)) nilA)) vs M = .ok (.bl b) M := by
  have v1 : varC i vs M = .ok v M := by unfold varC; rw [hv]
  have a : consA (varC i) (consA (conC (.ty y)) nilA) vs M = .ok [v, .ty y] M := by
    simp only [consA, nilA, conC, v1, R.bind_ok]
  show (consA (varC i) (consA (conC (.ty y)) nilA) vs M).bind (isA2 fns ws) = _
  rw [a, R.bind_ok]
  exact isA2_ty h e
mutual
/-- v and w are the same for _law_same, to k steps down -/
inductive Sm (M : AH) : Nat → AV → AV → Prop
  | sc {k : Nat} {v : AV} {t : AT} {b : Bool} : (∀ M', Grw M M' → tyA fns ws M' v = some t) → isCls ws t LT = some false → isCls ws t (.ty "dict") = some false → isCls ws t (.ty "bool") = some b → isCls ws t LTD = some false →
      (∀ M', Grw M M' → opEqX fns ws [] v v M' = .ok (.bl true) M') → Sm M (k + 1) v v
  | dct {k i : Nat} : M[i]? = some (.dct []) → Sm M (k + 2) (.ref i) (.ref i)
  | tup {k : Nat} {xs ys : List AV} : xs.length < 1000000 → SmL M k xs ys → Sm M (k + 1) (.tup xs) (.tup ys)
  | lst {k i j : Nat} {xs ys : List AV} : xs.length < 1000000 → M[i]? = some (.lst xs) → M[j]? = some (.lst ys) → SmL M k xs ys → Sm M (k + 1) (.ref i) (.ref j)
inductive SmL (M : AH) : Nat → List AV → List AV → Prop
  | nil {k : Nat} : SmL M k [] []
  | cons {k : Nat} {x y : AV} {xs ys : List AV} : Sm M k x y → SmL M k xs ys → SmL M k (x :: xs) (y :: ys)
end
theorem SmL.all {M : AH} {k : Nat} : ∀ {xs ys : List AV}, SmL M k xs ys → All2 (Sm M k) xs ys
  | _, _, .nil => .nil
  | _, _, .cons h t => .cons h (SmL.all t)
theorem same_sc {k : Nat} {v : AV} {t : AT} {b : Bool} {M : AH} (h : tyA fns ws M v = some t) (e1 : isCls ws t LT = some false) (e2 : isCls ws t (.ty "dict") = some false) (e3 : isCls ws t (.ty "bool") = some b) (e4 : isCls ws t LTD = some false)
    (he : opEqX fns ws [] v v M = .ok (.bl true) M) : OkR (f_law_same (k + 1) [.val v, .val v] M) fun r M' => r = .bl true ∧ Grw M M' := by
  refine ok_fn (ok_seq (if_f (ok_tru (okv (lt_ok (v := v) rfl h e1) (okv (a := false) (M := M) rfl ⟨rfl, ?_⟩)))))
  refine ok_skip (ok_seq (if_f (ok_tru (okv (isa_ok (v := v) rfl h e2) (okv (a := false) (M := M) rfl ⟨rfl, ?_⟩)))))
  refine ok_skip (ok_seq (ok_if (ok_orT (ok_tru (okv (isa_ok (v := v) rfl h e3) (okv (a := b) (M := M) rfl ?_))))))
  cases b with
  | true =>
    refine ok_ret (andC_t (okv (isa_ok (v := v) rfl h e3) ⟨rfl, andC_t (okv (isa_ok (v := v) rfl h e3) ⟨rfl, ?_⟩)⟩))
    and_intros
    exact okv he ⟨rfl, Grw.refl⟩
  | false =>
    refine ok_tru (okv (isa_ok (v := v) rfl h e3) (okv (a := false) (M := M) rfl ?_))
    refine ok_skip (ok_ret (andC_t (ok_notC (okv (ltd_ok (v := v) rfl h e4) ⟨_, rfl, rfl, ?_⟩))))
    and_intros
    exact okv he ⟨rfl, Grw.refl⟩
theorem same_seq {s n k : Nat} {a b : AV} {xs ys : List AV} {M : AH} (I : Its s n a xs M) (J : Its s n b ys M) (ht : isT a = isT b) (hl : xs.length < 1000000)
    (h2 : All2 (fun x y => ∀ M', Grw M M' → OkR (f_law_same k [.val x, .val y] M') fun r M2 => r = .bl true ∧ Grw M' M2) xs ys) : OkR (f_law_same (k + 1) [.val a, .val b] M) fun r M' => r = .bl true ∧ Grw M M' := by
  have tt : ∃ t, tyA fns ws M a = some t ∧ tyA fns ws M b = some t ∧ isCls ws t LT = some true ∧ ∃ l u, isCls ws t (.ty "list") = some l ∧ isCls ws t (.ty "tuple") = some u := by
    rcases I with rfl | ⟨i, rfl, _, _, g⟩ <;> rcases J with rfl | ⟨j, rfl, _, _, g2⟩
    · exact ⟨.tup, rfl, rfl, rfl, _, _, rfl, rfl⟩
    · cases ht
    · cases ht
    · exact ⟨.lst, by simp [tyA, g], by simp [tyA, g2], rfl, _, _, rfl, rfl⟩
  obtain ⟨t, t1, t2, t3, l, u, e1, e2⟩ := tt
  refine ok_fn (ok_seq (if_t (ok_tru (okv (lt_ok (v := b) rfl t2 t3) (okv (a := true) (M := M) rfl ⟨rfl, ?_⟩)))))
  have ne (b : Bool) : opNeY fns ws [] (.bl b) (.bl b) M = .ok (.bl false) M := by
    show opNe (.bl b) (.bl b) M = _
    have d : datS M (.bl b) = some (.bool b) := by
      have s : SeqAt.shaped (.bool b) = true := by simp [SeqAt.shaped, PyData.canLay0, PyData.depth]
      show (if SeqAt.shaped (.bool b) = true then some (PyData.bool b) else none) = _
      rw [if_pos s]
    unfold opNe
    rw [d]
    simp [PyData.eqv]
  refine ok_seq (if_f (orT_f (ok_cmp (okv (isa_ok (v := a) rfl t1 e1) (okv (isa_ok (v := b) rfl t2 e1) (okv (ne l) ⟨_, rfl, rfl, ?_⟩))))))
  refine ok_cmp (okv (isa_ok (v := a) rfl t1 e2) (okv (isa_ok (v := b) rfl t2 e2) (okv (ne u) ⟨_, rfl, rfl, ?_⟩)))
  have hl2 : xs.length = ys.length := h2.length
  refine ok_skip (ok_ret (andC_t ?_))
  and_intros
  refine okv (I.len (by unfold sizeLine; omega)) ?_
  and_intros
  refine okv (J.len (by unfold sizeLine; omega)) ?_
  have el : opEq (.int xs.length) (.int ys.length) M = .ok (.bl true) M := by
    show opEq (.int xs.length) (.int ys.length) M = _
    rw [opEq_int, hl2]
    simp
  refine okv el ⟨rfl, ?_⟩
  and_intros
  refine ok_lc (OkR.bind ?_)
  and_intros
  obtain ⟨i1, hw1, k1⟩ := I.walk
  obtain ⟨i2, hw2, k2⟩ := J.walk
  have ez : zipA [a, b] M = .ok ⟨List.zipWith (fun x y => AV.tup [x, y]) i1.items i2.items, i1.guard ++ i2.guard⟩ M := by
    simp only [zipA, if_pos ht, hw1, hw2]
  refine okv ez ?_
  have P4 : ∀ {xs ys : List AV}, All2 (fun x y => ∀ M', Grw M M' → OkR (f_law_same k [.val x, .val y] M') fun r M2 => r = .bl true ∧ Grw M' M2) xs ys →
      All2 (fun (v r : AV) => ∃ x y, v = AV.tup [x, y] ∧ r = AV.bl true ∧ ∀ M', Grw M M' → OkR (f_law_same k [.val x, .val y] M') fun r M2 => r = .bl true ∧ Grw M' M2) (List.zipWith (fun x y => AV.tup [x, y]) xs ys) ((xs.map fun _ => true).map AV.bl) := by
    intro xs ys h
    induction h with
    | nil => exact .nil
    | cons r _ ih => exact .cons ⟨_, _, rfl, rfl, r⟩ ih
  have ei : (IT.mk (List.zipWith (fun x y => AV.tup [x, y]) i1.items i2.items) (i1.guard ++ i2.guard)).items = List.zipWith (fun x y => AV.tup [x, y]) xs ys := by
    show List.zipWith _ i1.items i2.items = _
    rw [k1.items, k2.items]
  refine ok_lcG ?_ (by rw [ei]; exact P4 h2) (by simpa using hl) ?_ ?_
  · intro M5 g5
    have o1 := k1.ok _ (I.ext g5)
    have o2 := k2.ok _ (J.ext g5)
    unfold IT.ok at o1 o2 ⊢
    rw [List.all_append, o1, o2]
    rfl
  · rintro v r M5 ⟨x, y, rfl, rfl, h⟩ g5
    refine ⟨_, rfl, ?_⟩
    and_intros
    exact ⟨rfl, h M5 g5⟩
  · intro M5 g5 hd5
    and_intros
    refine okv (all_bls hd5) ⟨?_, g5⟩
    simp
theorem same_ok : ∀ (k : Nat) {M : AH} {v w : AV}, Sm M k v w → ∀ M', Grw M M' → OkR (f_law_same k [.val v, .val w] M') fun r M2 => r = .bl true ∧ Grw M' M2
  | 0, _, _, _, h => nomatch h
  | k + 1, M, v, w, h => by
    intro M' g
    cases h with
    | sc h e1 e2 e3 e4 he => exact same_sc (h M' g) e1 e2 e3 e4 (he M' g)
    | @dct k i h =>
      have h' := g.get _ _ h
      have ty : tyA fns ws M' (.ref i) = some .dct := by simp only [tyA, h']
      refine ok_fn (ok_seq (if_f (ok_tru (okv (lt_ok (v := .ref i) (b := false) rfl ty rfl) (okv (a := false) (M := M') rfl ⟨rfl, ?_⟩)))))
      refine ok_skip (ok_seq (if_t (ok_tru (okv (isa_ok (v := .ref i) (b := true) rfl ty rfl) (okv (a := true) (M := M') rfl ⟨rfl, ?_⟩)))))
      refine ok_ret (andC_t (okv (isa_ok (v := .ref i) (b := true) rfl ty rfl) ⟨rfl, ?_⟩))
      have it (M1 : AH) (h : M1[i]? = some (.dct [])) : itemsL (.ref i) M1 = .ok (.ref M1.length) (M1 ++ [.lst []]) := by
        simp only [itemsL, dctOf, h]
        rfl
      and_intros
      refine okv (it _ h') ?_
      and_intros
      refine okv (it _ (app_get h')) ?_
      and_intros
      refine ⟨rfl, ?_⟩
      refine (same_seq (k := k) (s := M'.length + 10) (n := M'.length + 10) (a := .ref M'.length) (b := .ref (M' ++ [AO.lst []]).length) (xs := []) (ys := []) (.inr ⟨_, rfl, by omega, by omega, app_get (by simp)⟩) (.inr ⟨_, rfl, by simp, by simp, by simp⟩) rfl (by simp) .nil).imp ?_
      rintro r M2 ⟨rfl, g2⟩
      exact ⟨rfl, (Grw.app.trans Grw.app).trans g2⟩
    | @tup _ xs ys hl h => exact same_seq (s := 0) (n := 1) (.inl rfl) (.inl rfl) rfl hl (h.all.imp fun x y z M2 g2 => same_ok k z M2 (g.trans g2))
    | @lst _ i j xs ys hl h1 h2 h =>
      exact same_seq (s := i + j + 1) (n := i + j + 1) (.inr ⟨i, rfl, by omega, by omega, g.get _ _ h1⟩) (.inr ⟨j, rfl, by omega, by omega, g.get _ _ h2⟩) rfl hl (h.all.imp fun x y z M2 g2 => same_ok k z M2 (g.trans g2))
end K01
end
section
/-! k01, the plain side: loose. -/
namespace K01
open PySem AM L2 AP
local macro_rules | `(tactic| and_intros) => `(tactic| repeat (first | (with_reducible first | refine ok_seq ?_ | refine ok_ret ?_ | refine ok_set ?_ | refine ok_drop ?_ | refine ok_con ?_ | refine ok_nil ?_ | refine ok_cons ?_ | refine ok_args ?_ | refine ok_bin ?_ | refine ok_un ?_ | refine ok_tru ?_ | refine ok_notT ?_ | refine ok_cmp ?_ | refine ok_par ?_ | refine ok_for ?_ | refine ok_skip ?_ | refine ok_notC ?_ | refine ok_ifC ?_ | refine ok_call ?_) | ((with_reducible apply ok_var); exact rfl)))
/-- v is like w; only what stands at b and beyond counts -/
def FLike (b s n : Nat) (M : AH) (v w : AV) : Prop := ∀ M2 : AH, (∀ i ob, b ≤ i → i ≠ s → i ≠ n → M[i]? = some ob → M2[i]? = some ob) → Like s n M2 v w
theorem FLike.like {b s n : Nat} {M : AH} {v w : AV} (h : FLike b s n M v w) : Like s n M v w := h M fun _ _ _ _ _ z => z
theorem FLike.fr {b s n : Nat} {M M' : AH} {v w : AV} (h : FLike b s n M v w) (f : Fr s n M M') : FLike b s n M' v w := fun M2 k => h M2 fun i ob h1 h2 h3 h4 => k i ob h1 h2 h3 (f.get _ _ h2 h3 h4)
theorem FLike.set {b s n d : Nat} {M : AH} {v w : AV} {o : AO} (h : FLike b s n M v w) (hd : d < b) : FLike b s n (M.set d o) v w := fun M2 k => h M2 fun i ob h1 h2 h3 h4 => k i ob h1 h2 h3 (by rw [set_ne (by omega)]; exact h4)
theorem FLike.mono {b b' s n : Nat} {M : AH} {v w : AV} (h : FLike b s n M v w) (k : b' ≤ b) : FLike b' s n M v w := fun M2 q => h M2 fun i ob h1 => q i ob (by omega)
theorem likeL_of {s n : Nat} {M : AH} {vs ws : List AV} (h : All2 (Like s n M) vs ws) : LikeL s n M vs ws := by
  induction h with
  | nil => exact .nil
  | cons r _ ih => exact .cons r ih
mutual
def nodes : AV → Nat
  | .tup ws => nodesL ws + 1
  | _ => 0
def nodesL : List AV → Nat
  | [] => 0
  | w :: ws => nodes w + nodesL ws
end
theorem Strm.lts {s n c : Nat} {M : AH} (h : Strm s n c M) : s < M.length := by obtain ⟨_, cur, cnt, st, ns, h1, _⟩ := h; exact get_lt h1
theorem Strm.ltn {s n c : Nat} {M : AH} (h : Strm s n c M) : n < M.length := by obtain ⟨_, cur, cnt, st, ns, h1, h2, _⟩ := h; exact get_lt h2
theorem All2.snoc {α β : Type} {R : α → β → Prop} {xs : List α} {ys : List β} {x : α} {y : β} (h : All2 R xs ys) (r : R x y) : All2 R (xs ++ [x]) (ys ++ [y]) := by
  induction h with
  | nil => exact .cons r .nil
  | cons r' _ ih => exact .cons r' ih
theorem loose_ok {s n : Nat} : ∀ (k : Nat) {v w : AV} {M : AH} {c : Nat}, Like s n M v w → dpA w < k → smA w = true → Strm s n c M → c + nodes w < 2 ^ 40 →
    OkR (f_law_loose k [.val (.ref s), .val v] M) fun r M' => FLike M.length s n M' r w ∧ Strm s n (c + nodes w) M' ∧ Fr s n M M'
  | 0, _, _, _, _, _, h, _, _, _ => absurd h (by omega)
  | k + 1, v, w, M, c, L, hd, hs, S, hc => by
    cases L with
    | int i =>
      refine ok_fn (ok_seq (if_f (ok_tru (okv (lt_ok (v := .int i) (t := .int) (b := false) rfl rfl rfl) (okv (a := false) (M := M) rfl ⟨rfl, ?_⟩)))))
      and_intros
      exact ⟨fun M2 _ => .int i, S.mono (by omega), Fr.refl⟩
    | @seq v vs ws I Ls =>
      obtain ⟨t, h1, h2⟩ := ty_its I
      refine ok_fn (ok_seq (if_t (ok_tru (okv (lt_ok (v := v) rfl h1 h2) (okv (a := true) (M := M) rfl ⟨rfl, ?_⟩)))))
      have lts := Strm.lts S
      have ltn := Strm.ltn S
      unfold dpA at hd
      unfold smA at hs
      rw [Bool.and_eq_true, decide_eq_true_eq] at hs
      unfold nodes at hc ⊢
      refine ok_seq (ok_set (ok_lc (I.val (c := varC 1) rfl fun it wk => ?_)))
      rw [wk.items]
      refine ok_lcL (fun acc rest M2 => ∃ done todo, ws = done ++ todo ∧ LikeL s n M rest todo ∧ dpL todo < k ∧ smL todo = true ∧ All2 (FLike (M.length + 1) s n M2) acc done ∧ M2[M.length]? = some (.lst acc) ∧ Fr s n M M2 ∧ ∃ e, Strm s n (c + e) M2 ∧ e + nodesL todo = nodesL ws) (fun acc rest M2 ⟨_, _, _, _, _, _, _, _, fr, _⟩ => wk.ok _ (I.fr fr)) ?_ ?_ vs [] _ ⟨[], ws, rfl, Ls, by omega, hs.2, .nil, by simp, Fr.app, 0, S.app, by omega⟩
      · rintro acc x rest M2 ⟨done, todo, e, hl, hd2, hs2, ha, hM, fr, ex, hS, he⟩
        cases hl with
        | @cons _ w0 _ ws0 h t =>
          refine ⟨_, rfl, ok_call (ok_cons (ok_var (a := .ref s) rfl (ok_cons (ok_var (a := x) rfl (ok_nil ⟨rfl, ?_⟩)))))⟩
          unfold dpL at hd2
          unfold smL at hs2
          have hnl : nodesL (w0 :: ws0) = nodes w0 + nodesL ws0 := by rw [nodesL]
          rw [hnl] at he
          rw [Bool.and_eq_true] at hs2
          refine (loose_ok k (Like.fr fr h) (by omega) hs2.1 hS (by omega)).imp ?_
          rintro y M3 ⟨hy, hS3, fr3⟩
          have hl2 := ha.length
          have hw2 : done.length ≤ ws.length := by rw [e]; simp
          have ltM2 : M.length < M2.length := get_lt hM
          have hM3 := fr3.get _ _ (by omega) (by omega) hM
          refine ⟨by unfold sizeLine; omega, hM3, done ++ [w0], ws0, by rw [e]; simp, t, by omega, hs2.2, ?_, set_get hM3, (fr.trans fr3).fresh (Nat.le_refl _), ex + nodes w0, ?_, by omega⟩
          · exact All2.snoc (ha.imp fun p q z => (z.fr fr3).set (by omega)) ((hy.mono (by omega)).set (by omega))
          · rw [← Nat.add_assoc]
            exact hS3.set (by omega) (by omega)
      · rintro acc M2 ⟨done, todo, e, hl, _, _, ha, hM, fr, ex, hS, he⟩
        cases hl
        rw [List.append_nil] at e
        subst e
        have hnl : nodesL [] = 0 := by rw [nodesL]
        rw [hnl] at he
        refine ok_ret ?_
        refine ok_ifC (ok_cmp ((ev_draw (m := 2) hS (by omega) rfl rfl (by decide) (by decide)).imp ?_))
        rintro r M3 ⟨d, rfl, d0, d1, hS3, fr3⟩
        refine ok_con ?_
        refine okv opEq_int ⟨_, rfl, ?_⟩
        have hM3 := fr3.get _ _ (by omega) (by omega) hM
        have fin : ∀ r : AV, (∀ M2 : AH, (∀ i ob, M.length ≤ i → i ≠ s → i ≠ n → M3[i]? = some ob → M2[i]? = some ob) → Its s n r acc M2) → FLike M.length s n M3 r (.tup ws) := by
          intro r hr M4 k4
          refine .seq (hr M4 k4) (likeL_of (ha.imp fun p q z => ?_))
          exact (z.fr fr3).mono (Nat.le_succ _) M4 k4
        have S4 : Strm s n (c + (nodesL ws + 1)) M3 := hS3.mono (by omega)
        cases hq : (d == 0) with
        | true =>
          rw [if_pos rfl]
          refine ok_var (a := .ref M.length) rfl ⟨fin _ fun M4 k4 => .inr ⟨_, rfl, by omega, by omega, k4 _ _ (by omega) (by omega) (by omega) hM3⟩, S4, fr.trans fr3⟩
        | false =>
          rw [if_neg (by decide)]
          refine ok_args (ok_cons (ok_var (a := .ref M.length) rfl (ok_nil ?_)))
          have tt : tupleA [.ref M.length] M3 = .ok (.tup acc) M3 := by simp [tupleA, seqA, hM3]
          exact okv tt ⟨fin _ fun M4 k4 => .inl rfl, S4, fr.trans fr3⟩
end K01
end
section
/-! k01, the plain side: bounded steps. -/
namespace K01
open PySem AM L2 AP
local macro_rules | `(tactic| and_intros) => `(tactic| repeat (first | (with_reducible first | refine ok_seq ?_ | refine ok_ret ?_ | refine ok_set ?_ | refine ok_drop ?_ | refine ok_con ?_ | refine ok_nil ?_ | refine ok_cons ?_ | refine ok_args ?_ | refine ok_bin ?_ | refine ok_un ?_ | refine ok_tru ?_ | refine ok_notT ?_ | refine ok_cmp ?_ | refine ok_par ?_ | refine ok_for ?_ | refine ok_skip ?_ | refine ok_notC ?_ | refine ok_ifC ?_ | refine ok_call ?_) | ((with_reducible apply ok_var); exact rfl)))
/-- a small int -/
def SmI (v : AV) : Prop := ∃ d : Int, v = .int d ∧ -100 ≤ d ∧ d ≤ 100
theorem pairB_ok {vs : AM.Loc} {M : AH} {s n c : Nat} {a b : CE} (h : Strm s n c M) (hc : c + 2 < 2 ^ 40)
    (ha : ∀ c M, Strm s n c M → c < 2 ^ 40 → OkR (a vs M) fun v M' => SmI v ∧ Strm s n (c + 1) M' ∧ Fr s n M M')
    (hb : ∀ c M, Strm s n c M → c < 2 ^ 40 → OkR (b vs M) fun v M' => SmI v ∧ Strm s n (c + 1) M' ∧ Fr s n M M') :
    OkR (argsC tupA (consA a (consA b nilA)) vs M) fun v M' => (∃ x y : Int, v = .tup [.int x, .int y] ∧ -100 ≤ x ∧ x ≤ 100 ∧ -100 ≤ y ∧ y ≤ 100) ∧ Strm s n (c + 2) M' ∧ Fr s n M M' := by
  refine ok_args (ok_cons ((ha c M h (by omega)).imp ?_))
  rintro v M1 ⟨⟨x, rfl, x0, x1⟩, h1, f1⟩
  refine ok_cons ((hb (c + 1) M1 h1 (by omega)).imp ?_)
  rintro v M2 ⟨⟨y, rfl, y0, y1⟩, h2, f2⟩
  exact ok_nil (ok_tup (by simp) ⟨⟨x, y, rfl, x0, x1, y0, y1⟩, h2, f1.trans f2⟩)
theorem dB_int {s n : Nat} {m : Nat} {vs : AM.Loc} (hv : vs[0]? = some (some (.val (.ref s)))) (h0 : 0 < m) (h1 : m ≤ 100) : ∀ c M, Strm s n c M → c < 2 ^ 40 → OkR (callC 2 f_law_draw (consA (varC 0) (consA (conC (.int m)) nilA)) vs M) fun v M' => SmI v ∧ Strm s n (c + 1) M' ∧ Fr s n M M' :=
  fun c M h hc => (ev_draw h hc hv rfl h0 (by omega)).imp fun v M' ⟨d, e, d0, d1, hs, fr⟩ => ⟨⟨d, e, by omega, by omega⟩, hs, fr⟩
theorem dB_sub {s n : Nat} {m : Nat} {k : Int} {vs : AM.Loc} (hv : vs[0]? = some (some (.val (.ref s)))) (h0 : 0 < m) (h1 : m ≤ 100) (k0 : 0 ≤ k) (k1 : k ≤ 100) : ∀ c M, Strm s n c M → c < 2 ^ 40 → OkR (bin2 opSub (callC 2 f_law_draw (consA (varC 0) (consA (conC (.int m)) nilA))) (conC (.int k)) vs M) fun v M' => SmI v ∧ Strm s n (c + 1) M' ∧ Fr s n M M' := by
  intro c M h hc
  refine ok_bin ((ev_draw h hc hv rfl h0 (by omega)).imp ?_)
  rintro v M' ⟨d, rfl, d0, d1, hs, fr⟩
  refine ok_con ?_
  exact okv (a := .int (d - k)) (M := M') rfl ⟨⟨d - k, rfl, by omega, by omega⟩, hs, fr⟩
def AmB (v : AV) : Prop := ∃ x y : Int, v = .tup [.int x, .int y] ∧ -100 ≤ x ∧ x ≤ 100 ∧ -100 ≤ y ∧ y ≤ 100
theorem amountsB_ok {s n c : Nat} {w : Int} {M : AH} (h : Strm s n c M) (hc : c + 2 < 2 ^ 40) : OkR (f_law_amounts [.val (.ref s), .val (.int w)] M) fun v M' => AmB v ∧ Strm s n (c + 2) M' ∧ Fr s n M M' := by
  refine ok_fn ?_
  have hv : (startL 2 [.val (.ref s), .val (.int w)])[0]? = some (some (.val (.ref s))) := rfl
  have hw : (startL 2 [.val (.ref s), .val (.int w)])[1]? = some (some (.val (.int w))) := rfl
  generalize startL 2 [.val (.ref s), .val (.int w)] = vs at hv hw
  have step : ∀ (k : Int) (a : CE) (b : CS), OkR (a vs M) (fun v M' => AmB v ∧ Strm s n (c + 2) M' ∧ Fr s n M M') → OkS (b vs M) (fun _ M' => AmB .non ∧ Strm s n (c + 2) M' ∧ Fr s n M M') (fun v M' => AmB v ∧ Strm s n (c + 2) M' ∧ Fr s n M M') →
      OkS (seqC (ifS (cmpT opEq (varC 1) (conC (.int k))) (retC a) skipC) b vs M) (fun _ M' => AmB .non ∧ Strm s n (c + 2) M' ∧ Fr s n M M') (fun v M' => AmB v ∧ Strm s n (c + 2) M' ∧ Fr s n M M') := by
    intro k a b ha hb
    refine ok_seq (ok_if ?_)
    rw [w_eq hw]
    cases q : (w == k) with
    | true => exact ok_ret ha
    | false => exact hb
  refine step _ _ _ (pairB_ok h hc (dB_int (m := 5) hv (by decide) (by decide)) (dB_int (m := 5) hv (by decide) (by decide))) ?_
  refine step _ _ _ (pairB_ok h hc (dB_sub (m := 9) (k := 4) hv (by decide) (by decide) (by decide) (by decide)) (dB_sub (m := 9) (k := 4) hv (by decide) (by decide) (by decide) (by decide))) ?_
  refine step _ _ _ (pairB_ok h hc (dB_sub (m := 19) (k := 9) hv (by decide) (by decide) (by decide) (by decide)) (dB_sub (m := 19) (k := 9) hv (by decide) (by decide) (by decide) (by decide))) ?_
  refine ok_ret (pairB_ok h hc (fun c M h hc => ?_) (fun c M h hc => ?_))
  · refine (pickI_ok (ns := [0, 0, 0, 1, 3]) hv (fun _ => rfl) (by decide) (by decide) c M h hc).imp fun v M' ⟨⟨d, hd, e⟩, z⟩ => ⟨⟨d, e, ?_⟩, z⟩
    simp at hd; omega
  · refine (pickI_ok (ns := [0, 0, 0, 1, 2]) hv (fun _ => rfl) (by decide) (by decide) c M h hc).imp fun v M' ⟨⟨d, hd, e⟩, z⟩ => ⟨⟨d, e, ?_⟩, z⟩
    simp at hd; omega
/-- a step as the law draws it, between the places -/
structure StpOk (p : Int) (st : Stp) : Prop where
  a0 : 0 ≤ st.a
  a1 : st.a < p
  b0 : 0 ≤ st.b
  b1 : st.b < p
  x0 : -100 ≤ st.x
  x1 : st.x ≤ 100
  y0 : -100 ≤ st.y
  y1 : st.y ≤ 100
  t0 : 1 ≤ st.t
  t1 : st.t ≤ 100
  c : st.c ∈ changes
theorem StpOk.c9 {p : Int} {st : Stp} (h : StpOk p st) : -9 ≤ st.c ∧ st.c ≤ 9 := by
  have := h.c
  simp [changes] at this
  omega
theorem StpOk.bb {p : Int} {st : Stp} (h : StpOk p st) : stepB p st = true := by
  simp [stepB, h.a0, h.a1, h.b0, h.b1, h.t0]
theorem stepS_ok {s n c : Nat} {i j p : Int} {w : Int} {M : AH} (h : Strm s n c M) (hc : c + 5 < 2 ^ 40) (i0 : 0 ≤ i) (i1 : i < p) (j0 : 0 ≤ j) (j1 : j < p) :
    OkR (f_law_step [.val (.ref s), .val (.int i), .val (.int j), .val (.int w)] M) fun v M' => (∃ st, v = st.av ∧ StpOk p st ∧ st.b = j) ∧ Strm s n (c + 5) M' ∧ Fr s n M M' := by
  refine ok_fn (ok_seq (ok_set (ok_bin (ok_con (ok_call (ok_cons (ok_var (a := .ref s) rfl (ok_cons ((pickI_ok (ns := [1, 2, 6]) (s := s) (n := n) rfl (fun _ => rfl) (by decide) (by decide) c M h (by omega)).imp ?_)))))))))
  rintro v M1 ⟨⟨d, hd, rfl⟩, h1, f1⟩
  obtain ⟨e, rfl, e0, e1⟩ : ∃ e : Nat, d = e ∧ 0 < e ∧ e ≤ 6 := ⟨d.toNat, by simp at hd; omega⟩
  refine ok_nil ⟨rfl, (draw_ok (m := e) h1 (by omega) (by omega) (by omega)).imp ?_⟩
  rintro v M2 ⟨t, rfl, t0, t1, h2, f2⟩
  refine ok_seq (ok_set ((pickI_ok (ns := changes) (s := s) (n := n) rfl (fun _ => rfl) (by decide) (by decide) _ M2 h2 (by omega)).imp ?_))
  rintro v M3 ⟨⟨ch, hch, rfl⟩, h3, f3⟩
  refine ok_ret (ok_args (ok_cons (ok_var (a := .int i) rfl (ok_cons (ok_var (a := .int j) rfl (ok_cons (ok_call (ok_cons (ok_var (a := .ref s) rfl (ok_cons (ok_var (a := .int w) rfl (ok_nil ⟨rfl, (amountsB_ok h3 (by omega)).imp ?_⟩))))))))))))
  rintro v M4 ⟨⟨x, y, rfl, x0, x1, y0, y1⟩, h4, f4⟩
  refine ok_cons (ok_var (a := .int (1 + t)) rfl (ok_cons (ok_var (a := .int ch) rfl (ok_nil (ok_tup (by simp) ?_)))))
  exact ⟨⟨⟨i, j, x, y, 1 + t, ch⟩, rfl, ⟨i0, i1, j0, j1, x0, x1, y0, y1, by show 1 ≤ 1 + t; omega, by show 1 + t ≤ 100; omega, hch⟩, rfl⟩, h4, ((f1.trans f2).trans f3).trans f4⟩
theorem ok_meth {vs : AM.Loc} {M : AH} {f : MFun} {c : CE} {r : CA} {Q : AV → AH → Prop} (h : OkR (c vs M) fun a M1 => ∃ op, f (kindA a M1) = some op ∧ OkR (r vs M1) fun as M2 => OkR (op a as M2) Q) : OkR (methK f c r vs M) Q :=
  OkR.bind (h.imp fun a M1 ⟨op, e, z⟩ => by rw [e]; exact OkR.bind z)
theorem kind_lst {i : Nat} {xs : List AV} {M : AH} {op : AV → List AV → AH → R AV} (h : M[i]? = some (.lst xs)) : onT "list" op (kindA (.ref i) M) = some op := by
  have : kindA (.ref i) M = "list" := by simp [kindA, h]
  rw [this]; rfl
end K01
end
section
/-! k01, the plain side: the web's ring. -/
namespace K01
open PySem AM L2 AP
local macro_rules | `(tactic| and_intros) => `(tactic| repeat (first | (with_reducible first | refine ok_seq ?_ | refine ok_ret ?_ | refine ok_set ?_ | refine ok_drop ?_ | refine ok_con ?_ | refine ok_nil ?_ | refine ok_cons ?_ | refine ok_args ?_ | refine ok_bin ?_ | refine ok_un ?_ | refine ok_tru ?_ | refine ok_notT ?_ | refine ok_cmp ?_ | refine ok_par ?_ | refine ok_for ?_ | refine ok_skip ?_ | refine ok_notC ?_ | refine ok_ifC ?_ | refine ok_call ?_) | ((with_reducible apply ok_var); exact rfl)))
theorem atI_any {xs : List AV} {i : Int} (h0 : -(xs.length : Int) ≤ i) (h1 : i < xs.length) : ∃ x, atI xs i = some x ∧ x ∈ xs := by
  by_cases k : 0 ≤ i
  · obtain ⟨x, e, h, _⟩ := atI_pos k h1
    exact ⟨x, e, h⟩
  · have hl : (i + xs.length).toNat < xs.length := by omega
    refine ⟨xs[(i + xs.length).toNat], ?_, List.getElem_mem _⟩
    unfold atI ixN
    rw [if_neg k, if_pos h0]
    exact List.getElem?_eq_getElem hl
theorem ok_slice {vs : AM.Loc} {M : AH} {c : CE} {lo hi : CO} {Q : AV → AH → Prop} (h : OkR (c vs M) fun a M1 => OkR (lo vs M1) fun l M2 => OkR (hi vs M2) fun g M3 => OkR (opSl a l g M3) Q) : OkR (sliceC c lo hi vs M) Q :=
  OkR.bind (h.imp fun a M1 z => OkR.bind (z.imp fun l M2 z => OkR.bind z))
theorem ok_some {vs : AM.Loc} {M : AH} {c : CE} {Q : Option Int → AH → Prop} (h : OkR (c vs M) fun a M1 => ∃ i, a = .int i ∧ Q (some i) M1) : OkR (someO c vs M) Q :=
  OkR.bind (h.imp fun a M1 ⟨i, e, z⟩ => by subst e; exact z)
theorem ok_no {vs : AM.Loc} {M : AH} {Q : Option Int → AH → Prop} (h : Q none M) : OkR (noO vs M) Q := h
def rgZ (P : Nat) : List Int := (List.range P).map fun i : Nat => (i : Int)
theorem rg_ok {P : Nat} {M : AH} (h : P ≤ 100) : listRg [.int P] M = .ok (.ref M.length) (M ++ [.lst ((rgZ P).map AV.int)]) := by
  have b : rgB 0 P = true := decide_eq_true (RgOk.of_le (by omega) (by omega) (by omega) (by omega))
  have e : rgL 0 P = (rgZ P).map AV.int := by
    unfold rgL rgZ
    rw [List.map_map]
    have : ((P : Int) - 0).toNat = P := by omega
    rw [this]
    refine List.map_congr_left fun i _ => ?_
    simp
  show (if rgB 0 P = true then newL (rgL 0 P) M else .bad) = _
  rw [if_pos b, e]
  unfold newL
  rw [if_pos (by simp [rgZ]; unfold sizeLine; omega)]
theorem rgZ_nodup (P : Nat) : (rgZ P).Nodup := by
  unfold rgZ
  refine List.Pairwise.map (R := fun a b : Nat => a ≠ b) (S := fun a b : Int => a ≠ b) _ (fun a b h => ?_) (List.nodup_range (n := P))
  omega
theorem rgZ_mem {P : Nat} {i : Int} (h : i ∈ rgZ P) : 0 ≤ i ∧ i < P := by
  unfold rgZ at h
  simp at h
  obtain ⟨j, hj, rfl⟩ := h
  omega
theorem lst_ok {as : List AV} {M : AH} (h : as.length ≤ 1000) : lstA as M = .ok (.ref M.length) (M ++ [.lst as]) := by
  unfold lstA
  rw [if_pos (Nat.le_trans h (by unfold sizeLine; decide))]
theorem enum_ok {s n : Nat} {a : AV} {xs : List AV} {M : AH} (I : Its s n a xs M) : ∃ it, Walk s n a xs it ∧ enumA [a] M = .ok ⟨enumFrom 0 xs, it.guard⟩ M := by
  obtain ⟨it, hw, w⟩ := I.walk
  refine ⟨it, w, ?_⟩
  simp only [enumA, hw, w.items]
theorem nodup_map {f : Stp → Int} {ss : List Stp} (h : (ss.map f).Nodup) : ss.Nodup := by
  have := List.pairwise_map.mp h
  exact this.imp fun h e => h (by rw [e])
section
variable {s n c : Nat} {M : AH} {P : Nat} {W : Int}
/-- the ring's steps -/
theorem ring_loop {f r : Nat} {z1 z2 q1 q2 q3 q4 : Option SV} {is : List Int} (S : Strm s n c M) (hc : c + 5 * is.length < 2 ^ 40) (hf : M[f]? = some (.lst [])) (fs : f ≠ s) (fn : f ≠ n) (rf : r ≠ f) (hr : M[r]? = some (.lst (is.map AV.int))) (rs : r ≠ s) (rn : r ≠ n)
    (hi : ∀ i ∈ is, 0 ≤ i ∧ i < (P : Int)) (hl : is.length ≤ 1000) {N : AM.Loc → AH → Prop} {T : AV → AH → Prop}
    (k : ∀ (a b : Option SV) (M' : AH) (ss : List Stp), M'[f]? = some (.lst (ss.map Stp.av)) → ss.map Stp.b = is → (∀ st ∈ ss, StpOk P st) → Strm s n (c + 5 * is.length) M' → (∀ M0 : AH, M0.length ≤ f → Fr s n M0 M → Fr s n M0 M') → N [some (.val (.ref s)), z1, z2, some (.val (.int P)), some (.val (.int W)), some (.val (.ref f)), some (.val (.ref r)), a, b, q3, q4] M') :
    OkS (forC (argsI enumA (consA (varC 6) nilA)) (tupG 2 (consG (nameG 7) (consG (nameG 8) nilG)))
      (dropC (methK (onT "list" mAppend) (varC 5) (consA (callC 4 f_law_step (consA (varC 0) (consA (bin2 opIx (varC 6) (bin2 opSub (varC 7) (conC (.int 1)))) (consA (varC 8) (consA (varC 4) nilA))))) nilA)))
      [some (.val (.ref s)), z1, z2, some (.val (.int P)), some (.val (.int W)), some (.val (.ref f)), some (.val (.ref r)), q1, q2, q3, q4] M) N T := by
  have I : Its s n (.ref r) (is.map AV.int) M := .inr ⟨r, rfl, rs, rn, hr⟩
  obtain ⟨it, w, he⟩ := enum_ok I
  and_intros
  refine OkR.bind ?_
  and_intros
  refine okv he ?_
  refine OkS.imp (ok_loop (T := fun _ _ => False)
    (N := fun vs' M' => ∃ (a b : Option SV) (ss : List Stp), vs' = [some (.val (.ref s)), z1, z2, some (.val (.int P)), some (.val (.int W)), some (.val (.ref f)), some (.val (.ref r)), a, b, q3, q4] ∧ M'[f]? = some (.lst (ss.map Stp.av)) ∧ ss.map Stp.b = is ∧ (∀ st ∈ ss, StpOk P st) ∧ Strm s n (c + 5 * is.length) M' ∧ (∀ M0 : AH, M0.length ≤ f → Fr s n M0 M → Fr s n M0 M'))
    (fun rest vs' M' => ∃ (a b : Option SV) (ss : List Stp) (todo : List Int), rest = enumFrom ss.length (todo.map AV.int) ∧ vs' = [some (.val (.ref s)), z1, z2, some (.val (.int P)), some (.val (.int W)), some (.val (.ref f)), some (.val (.ref r)), a, b, q3, q4] ∧ M'[f]? = some (.lst (ss.map Stp.av)) ∧ ss.map Stp.b ++ todo = is ∧ (∀ st ∈ ss, StpOk P st) ∧ Strm s n (c + 5 * ss.length) M' ∧ (∀ M0 : AH, M0.length ≤ f → Fr s n M0 M → Fr s n M0 M') ∧ M'[r]? = some (.lst (is.map AV.int)))
    ?ok ?step ?fin _ _ _ ⟨q1, q2, [], is, rfl, rfl, hf, rfl, by simp, S, fun M0 _ h => h, hr⟩) ?after (fun _ _ z => z.elim)
  case ok =>
    rintro xs vs' M' ⟨_, _, _, _, _, _, _, _, _, _, _, hr'⟩
    exact w.ok _ (.inr ⟨r, rfl, rs, rn, hr'⟩)
  case fin =>
    rintro vs' M' ⟨a, b, ss, todo, e, rfl, h1, h2, h3, h4, h5, _⟩
    cases todo with
    | cons _ _ => cases e
    | nil =>
      rw [List.append_nil] at h2
      refine ⟨a, b, ss, rfl, h1, h2, h3, ?_, h5⟩
      have : ss.length = is.length := by rw [← h2]; simp
      rw [← this]; exact h4
  case after =>
    rintro vs' M' ⟨a, b, ss, rfl, h1, h2, h3, h4, h5⟩
    exact k a b M' ss h1 h2 h3 h4 h5
  case step =>
    rintro x rest vs' M' ⟨a, b, ss, todo, e, rfl, h1, h2, h3, h4, h5, h6⟩
    cases todo with
    | nil => cases e
    | cons j todo =>
      obtain ⟨rfl, rfl⟩ := List.cons.inj e
      have jm : j ∈ is := by rw [← h2]; simp
      have hlen : ss.length < is.length := by rw [← h2]; simp
      refine ok_turn2 ?_
      refine ok_drop (ok_meth ?_)
      and_intros
      refine ⟨_, kind_lst h1, ?_⟩
      and_intros
      refine okv (a := .int ((ss.length : Int) - 1)) (M := M') rfl ?_
      obtain ⟨x, ex, hx⟩ := atI_any (xs := is.map AV.int) (i := (ss.length : Int) - 1) (by simp; omega) (by simp; omega)
      obtain ⟨i, him, rfl⟩ := List.mem_map.mp hx
      refine okv (ix_at h6 ex) ?_
      and_intros
      refine ⟨rfl, (stepS_ok (p := P) h4 (by omega) (hi i him).1 (hi i him).2 (hi j jm).1 (hi j jm).2).imp ?_⟩
      rintro v M2 ⟨⟨st, rfl, ok, hb⟩, h7, f7⟩
      and_intros
      have hf2 := f7.get _ _ fs fn h1
      refine okv (append_ok hf2 (by simp; unfold sizeLine; omega)) ?_
      refine ⟨_, _, ss ++ [st], todo, by simp, rfl, by rw [set_get hf2]; simp, by rw [← h2]; simp [hb], ?_, ?_, ?_, ?_⟩
      · intro st' hm
        rcases List.mem_append.mp hm with hm | hm
        · exact h3 _ hm
        · rw [List.mem_singleton] at hm; rw [hm]; exact ok
      · have : c + 5 * (ss ++ [st]).length = c + 5 * ss.length + 5 := by simp; omega
        rw [this]
        exact h7.set fs fn
      · exact fun M0 h0 hfr => ((h5 M0 h0 hfr).trans f7).fresh h0
      · rw [set_ne (Ne.symm rf)]
        exact f7.get _ _ rs rn h6
end
end K01
end
section
/-! k01, the plain side: the web. -/
namespace K01
open PySem AM L2 AP
local macro_rules | `(tactic| and_intros) => `(tactic| repeat (first | (with_reducible first | refine ok_seq ?_ | refine ok_ret ?_ | refine ok_set ?_ | refine ok_drop ?_ | refine ok_con ?_ | refine ok_nil ?_ | refine ok_cons ?_ | refine ok_args ?_ | refine ok_bin ?_ | refine ok_un ?_ | refine ok_tru ?_ | refine ok_notT ?_ | refine ok_cmp ?_ | refine ok_par ?_ | refine ok_for ?_ | refine ok_skip ?_ | refine ok_notC ?_ | refine ok_ifC ?_ | refine ok_call ?_) | ((with_reducible apply ok_var); exact rfl)))
theorem draw_go {s n c : Nat} {m : Int} {M : AH} (h : Strm s n c M) (hc : c < 2 ^ 40) (hm : 0 < m) (hm2 : m < 2 ^ 60) : OkR (f_law_draw [.val (.ref s), .val (.int m)] M) (Drw s n c m M) := draw_ok h hc hm hm2
section
variable {s n c : Nat} {M : AH} {P : Nat} {W : Int}
/-- the other steps -/
theorem more_loop {f e : Nat} {z1 z2 z6 q1 q2 q3 q4 : Option SV} {ss0 : List Stp} (S : Strm s n c M) (hc : c + 7 * e < 2 ^ 40) (hP : 0 < P) (hP2 : P ≤ 100) (hf : M[f]? = some (.lst (ss0.map Stp.av))) (fs : f ≠ s) (fn : f ≠ n)
    (ho : ∀ st ∈ ss0, StpOk P st) (nd : ss0.Nodup) (hl : ss0.length + e ≤ 14) {N : AM.Loc → AH → Prop} {T : AV → AH → Prop}
    (k : ∀ (a b : Option SV) (M' : AH) (ss : List Stp), M'[f]? = some (.lst (ss.map Stp.av)) → (∀ st ∈ ss, StpOk P st) → ss.Nodup → ss.length ≤ 14 → Strm s n (c + 7 * e) M' → (∀ M0 : AH, M0.length ≤ f → Fr s n M0 M → Fr s n M0 M') → N [some (.val (.ref s)), z1, z2, some (.val (.int P)), some (.val (.int W)), some (.val (.ref f)), z6, q1, q2, a, b] M') :
    OkS (loopC ⟨rangeV 0 e, []⟩ (nameG 9) (seqC (asgC (callC 4 f_law_step (consA (varC 0) (consA (callC 2 f_law_draw (consA (varC 0) (consA (varC 3) nilA))) (consA (callC 2 f_law_draw (consA (varC 0) (consA (varC 3) nilA))) (consA (varC 4) nilA))))) (nameG 10))
      (dropC (methK (onT "list" mExtend) (varC 5) (consA (ifC (cmpT (opIn true) (varC 10) (varC 5)) (argsC lstA (consA (varC 10) nilA)) (argsC lstA nilA)) nilA)))) (rangeV 0 e)
      [some (.val (.ref s)), z1, z2, some (.val (.int P)), some (.val (.int W)), some (.val (.ref f)), z6, q1, q2, q3, q4] M) N T := by
  refine OkS.imp (ok_loop (T := fun _ _ => False)
    (N := fun vs' M' => ∃ (a b : Option SV) (ss : List Stp), vs' = [some (.val (.ref s)), z1, z2, some (.val (.int P)), some (.val (.int W)), some (.val (.ref f)), z6, q1, q2, a, b] ∧ M'[f]? = some (.lst (ss.map Stp.av)) ∧ (∀ st ∈ ss, StpOk P st) ∧ ss.Nodup ∧ ss.length ≤ 14 ∧ Strm s n (c + 7 * e) M' ∧ (∀ M0 : AH, M0.length ≤ f → Fr s n M0 M → Fr s n M0 M'))
    (fun rest vs' M' => ∃ (a b : Option SV) (ss : List Stp) (u : Nat), vs' = [some (.val (.ref s)), z1, z2, some (.val (.int P)), some (.val (.int W)), some (.val (.ref f)), z6, q1, q2, a, b] ∧ M'[f]? = some (.lst (ss.map Stp.av)) ∧ (∀ st ∈ ss, StpOk P st) ∧ ss.Nodup ∧ u + rest.length = e ∧ ss.length ≤ ss0.length + u ∧ Strm s n (c + 7 * u) M' ∧ (∀ M0 : AH, M0.length ≤ f → Fr s n M0 M → Fr s n M0 M'))
    (fun _ _ _ _ => rfl) ?step ?fin _ _ _ ⟨q3, q4, ss0, 0, rfl, hf, ho, nd, by simp [rangeV], by omega, S, fun M0 _ h => h⟩) ?after (fun _ _ z => z.elim)
  case fin =>
    rintro vs' M' ⟨a, b, ss, u, rfl, h1, h2, h3, h4, h5, h6, h7⟩
    simp only [List.length_nil] at h4
    exact ⟨a, b, ss, rfl, h1, h2, h3, by omega, h6.mono (by omega), h7⟩
  case after =>
    rintro vs' M' ⟨a, b, ss, rfl, h1, h2, h3, h4, h5, h6⟩
    exact k a b M' ss h1 h2 h3 h4 h5 h6
  case step =>
    rintro x rest vs' M' ⟨a, b, ss, u, rfl, h1, h2, h3, h4, h5, h6, h7⟩
    simp only [List.length_cons] at h4
    refine ok_turn (ok_seq (ok_set ?_))
    and_intros
    refine ⟨rfl, (draw_go (m := P) h6 (by omega) (by omega) (by omega)).imp ?_⟩
    rintro v M1 ⟨i, rfl, i0, i1, S1, f1⟩
    and_intros
    refine ⟨rfl, (draw_go (m := P) S1 (by omega) (by omega) (by omega)).imp ?_⟩
    rintro v M2 ⟨j, rfl, j0, j1, S2, f2⟩
    and_intros
    refine ⟨rfl, (stepS_ok (p := P) S2 (by omega) i0 i1 j0 j1).imp ?_⟩
    rintro v M3 ⟨⟨st, rfl, ok, hb⟩, S3, f3⟩
    have hf3 := f3.get _ _ fs fn (f2.get _ _ fs fn (f1.get _ _ fs fn h1))
    have F : ∀ M0 : AH, M0.length ≤ f → Fr s n M0 M → Fr s n M0 M3 := fun M0 h0 hfr => (((h7 M0 h0 hfr).trans f1).trans f2).trans f3
    have ltf : f < M3.length := get_lt hf3
    refine ok_drop (ok_meth ?_)
    and_intros
    refine ⟨_, kind_lst hf3, ?_⟩
    and_intros
    refine okv (in_list hf3 true) ⟨_, rfl, ?_⟩
    by_cases q : st ∈ ss
    · rw [if_neg (by simp [q])]
      refine ok_args (ok_nil (okv (lst_ok (by simp)) ?_))
      and_intros
      have e5 : mExtend (.ref f) [.ref M3.length] (M3 ++ [.lst []]) = .ok .non ((M3 ++ [AO.lst []]).set f (.lst (ss.map Stp.av ++ []))) := by
        simp only [mExtend, app_get hf3]
        have : (M3 ++ [AO.lst []])[M3.length]? = some (.lst []) := by simp
        simp only [this]
        rw [if_pos (by simp; unfold sizeLine; omega)]
      refine okv e5 ⟨_, _, ss, u + 1, rfl, by rw [set_get (app_get hf3)]; simp, h2, h3, by omega, by omega, (S3.mono (by omega)).app.set fs fn, fun M0 h0 hfr => ((F M0 h0 hfr).trans Fr.app).fresh h0⟩
    · rw [if_pos (by simp [q])]
      refine ok_args (ok_cons (ok_var (a := st.av) rfl (ok_nil (okv (lst_ok (by simp)) ?_))))
      and_intros
      have e5 : mExtend (.ref f) [.ref M3.length] (M3 ++ [.lst [st.av]]) = .ok .non ((M3 ++ [AO.lst [st.av]]).set f (.lst (ss.map Stp.av ++ [st.av]))) := by
        simp only [mExtend, app_get hf3]
        have : (M3 ++ [AO.lst [st.av]])[M3.length]? = some (.lst [st.av]) := by simp
        simp only [this]
        rw [if_pos (by simp; unfold sizeLine; omega)]
      refine okv e5 ⟨_, _, ss ++ [st], u + 1, rfl, by rw [set_get (app_get hf3)]; simp, ?_, ?_, by omega, by simp; omega, (S3.mono (by omega)).app.set fs fn, fun M0 h0 hfr => ((F M0 h0 hfr).trans Fr.app).fresh h0⟩
      · intro st' hm
        rcases List.mem_append.mp hm with hm | hm
        · exact h2 _ hm
        · rw [List.mem_singleton] at hm; rw [hm]; exact ok
      · rw [List.nodup_append]
        refine ⟨h3, by simp, ?_⟩
        intro a ha b hb
        rw [List.mem_singleton] at hb
        rw [hb]
        intro e; rw [e] at ha; exact q ha
theorem web_ok (S : Strm s n c M) (hc : c + 1000 < 2 ^ 40) :
    OkR (f_law_web [.val (.ref s), .val (.int 6), .val (.int 14)] M) fun v M' => ∃ (P i : Nat) (ss : List Stp), v = .tup [.int P, .ref i] ∧ M.length ≤ i ∧ M'[i]? = some (.lst (ss.map Stp.av)) ∧ 1 ≤ P ∧ P ≤ 6 ∧ (∀ st ∈ ss, StpOk P st) ∧ ss.Nodup ∧ ss.length ≤ 14 ∧ Strm s n (c + 300) M' ∧ Fr s n M M' := by
  have hrg : ∀ (P : Nat) (M : AH), P ≤ 100 → listRg [.int P] M = .ok (.ref M.length) (M ++ [.lst ((rgZ P).map AV.int)]) := fun P M h => rg_ok h
  have hrn : ∀ (k : Nat) (M : AH), k < 2 ^ 60 → rangeA1 [.int k] M = .ok ⟨rangeV 0 k, []⟩ M := fun k M h => range_ok h
  have hmx : ∀ {c : Nat} {a : AV} {xs : List AV} {M : AH}, Strm s n c M → c + xs.length < 2 ^ 40 → Its s n a xs M → xs.length < sizeLine →
    OkR (f_law_mixed [.val (.ref s), .val a] M) fun v M' => ∃ f ys, v = .ref f ∧ M.length ≤ f ∧ M'[f]? = some (.lst ys) ∧ ys.Perm xs ∧ Strm s n (c + xs.length) M' ∧ Fr s n M M' := fun h1 h2 h3 h4 => mixed_ok h1 h2 h3 h4
  unfold f_law_web c_law_web
  generalize listRg = LR at hrg ⊢
  generalize rangeA1 = RA at hrn ⊢
  generalize f_law_mixed = MX at hmx ⊢
  refine ok_fn (ok_seq ?_)
  refine ok_asg ?_
  and_intros
  refine ⟨rfl, (draw_go (m := 6) S (by omega) (by omega) (by omega)).imp ?_⟩
  rintro v M1 ⟨d, rfl, d0, d1, S1, f1⟩
  obtain ⟨P, hP⟩ : ∃ P : Nat, 1 + d = P := ⟨(1 + d).toNat, by omega⟩
  refine okv (a := .int P) (M := M1) (by show R.ok (AV.int (1 + d)) M1 = _; rw [hP]) ?_
  and_intros
  refine ⟨rfl, (draw_go (m := 4) S1 (by omega) (by omega) (by omega)).imp ?_⟩
  rintro v M2 ⟨W, rfl, _, _, S2, f2⟩
  and_intros
  refine okv (lst_ok (by simp)) ?_
  and_intros
  refine okv (lst_ok (by simp)) ?_
  and_intros
  have hlen : (M2 ++ [AO.lst []]).length = M2.length + 1 := by simp
  rw [hlen]
  refine ok_tup (by simp) ?_
  have F3 : Fr s n M (M2 ++ [AO.lst []] ++ [AO.lst []]) := ((f1.trans f2).trans Fr.app).trans Fr.app
  have S3 : Strm s n (c + 2) (M2 ++ [AO.lst []] ++ [AO.lst []]) := S2.app.app
  have g1 : (M2 ++ [AO.lst []] ++ [AO.lst []])[M2.length]? = some (.lst []) := by simp
  have g2 : (M2 ++ [AO.lst []] ++ [AO.lst []])[M2.length + 1]? = some (.lst []) := by simp
  have l2 : M.length ≤ M2.length := (f1.trans f2).len
  have ls := Strm.lts S2
  have ln := Strm.ltn S2
  generalize M2 ++ [AO.lst []] ++ [AO.lst []] = M3 at F3 S3 g1 g2
  generalize hf : M2.length = f at g1 g2 l2 ls ln
  show OkS (seqC _ _ [some (.val (.ref s)), some (.val (.int 6)), some (.val (.int 14)), some (.val (.int P)), some (.val (.int W)), some (.val (.ref f)), some (.val (.ref (f + 1))), none, none, none, none] M3) _ _
  refine ok_seq (OkS.imp (N := fun vs' M' => ∃ (r : Nat) (is : List Int), vs' = [some (.val (.ref s)), some (.val (.int 6)), some (.val (.int 14)), some (.val (.int P)), some (.val (.int W)), some (.val (.ref f)), some (.val (.ref r)), none, none, none, none] ∧ M'[r]? = some (.lst (is.map AV.int)) ∧ r ≠ s ∧ r ≠ n ∧ r ≠ f ∧ is.Nodup ∧ is.length ≤ P ∧ (∀ i ∈ is, 0 ≤ i ∧ i < (P : Int)) ∧ M'[f]? = some (.lst []) ∧ Strm s n (c + 20) M' ∧ Fr s n M M') (T := fun _ _ => False) ?ring ?rest fun _ _ z => z.elim)
  case ring =>
    refine ok_if (ok_cmp ((ev_draw (m := 5) S3 (by omega) rfl rfl (by decide) (by decide)).imp ?_))
    rintro v M4 ⟨d5, rfl, _, _, S4, f4⟩
    refine ok_con ⟨_, rfl, ?_⟩
    have g1' := f4.get _ _ (by omega) (by omega) g1
    have g2' := f4.get _ _ (by omega) (by omega) g2
    cases hq : decide (0 < d5) with
    | false =>
      exact ⟨f + 1, [], rfl, g2', by omega, by omega, by omega, List.nodup_nil, by simp, by simp, g1', S4.mono (by omega), F3.trans f4⟩
    | true =>
      rw [if_pos rfl]
      refine ok_set ?_
      refine ok_slice ?_
      and_intros
      refine okv (hrg P _ (by omega)) ?_
      and_intros
      refine ⟨rfl, ?_⟩
      have ltf : f < M4.length := get_lt g1'
      have hl5 : ((rgZ P).map AV.int).length = P := by simp [rgZ]
      refine (hmx (a := .ref M4.length) (xs := (rgZ P).map AV.int) S4.app (by rw [hl5]; omega) (.inr ⟨_, rfl, by omega, by omega, by simp⟩) (by rw [hl5]; unfold sizeLine; omega)).imp ?_
      rintro v M5 ⟨r, ys, rfl, hr, gr, pm, S5, f5⟩
      obtain ⟨is, rfl, pis⟩ := perm_map pm (rgZ P) rfl
      rw [hl5] at S5
      refine ok_no (ok_some ?_)
      and_intros
      refine ⟨rfl, (draw_go (m := P) S5 (by omega) (by omega) (by omega)).imp ?_⟩
      rintro v M6 ⟨d6, rfl, d60, d61, S6, f6⟩
      obtain ⟨K, hK⟩ : ∃ K : Nat, 1 + d6 = K := ⟨(1 + d6).toNat, by omega⟩
      refine okv (a := .int K) (M := M6) (by show R.ok (AV.int (1 + d6)) M6 = _; rw [hK]) ⟨_, rfl, ?_⟩
      have hr5 : r < M5.length := get_lt gr
      have hlr : M4.length + 1 ≤ r := by simpa using hr
      have ir : Its s n (.ref r) (is.map AV.int) M6 := .inr ⟨r, rfl, by omega, by omega, f6.get _ _ (by omega) (by omega) gr⟩
      have hlis : is.length = P := by rw [pis.length_eq]; simp [rgZ]
      have e7 : opSl (.ref r) none (some (K : Int)) M6 = .ok (.ref M6.length) (M6 ++ [.lst ((is.take K).map AV.int)]) := by
        simp only [opSl, f6.get _ _ (show r ≠ s by omega) (show r ≠ n by omega) gr, cut_to, newL]
        rw [if_pos (by simp; unfold sizeLine; omega), List.map_take]
      refine okv e7 ?_
      have F6 : Fr s n (M4 ++ [AO.lst (List.map AV.int (rgZ P))]) M6 := f5.trans f6
      have l6 : r < M6.length := Nat.lt_of_lt_of_le hr5 f6.len
      refine ⟨M6.length, is.take K, rfl, by simp, by omega, by omega, by omega, ?_, by simp; omega, ?_, ?_, (S6.mono (by omega)).app, ((F3.trans f4).trans (Fr.app.trans F6)).trans Fr.app⟩
      · exact ((pis.nodup_iff).mpr (rgZ_nodup P)).sublist (List.take_sublist _ _)
      · intro i hi
        exact rgZ_mem (pis.mem_iff.mp (List.mem_of_mem_take hi))
      · exact app_get (F6.get _ _ (by omega) (by omega) (app_get g1'))
  case rest =>
    rintro vs' M4 ⟨r, is, rfl, gr, rs, rn, rf, nd, hl, hi, g1', S4, F4⟩
    refine ok_seq (ring_loop S4 (by omega) g1' (by omega) (by omega) rf gr rs rn hi (by omega) ?_)
    intro a b M5 ss h1 h2 h3 h4 h5
    have F5 := h5 M l2 F4
    have hl2 : ss.length = is.length := by rw [← h2]; simp
    have nds : ss.Nodup := nodup_map (by rw [h2]; exact nd)
    refine ok_seq (ok_for (OkR.bind (ok_cons ?_)))
    have el : lenA [.ref f] M5 = .ok (.int ss.length) M5 := by
      simp only [lenA, h1]
      simp
    obtain ⟨B, hB⟩ : ∃ B : Nat, (14 : Int) - ss.length + 1 = B := ⟨(14 - (ss.length : Int) + 1).toNat, by omega⟩
    have eB : bin2 opAdd (bin2 opSub (varC 2) (argsC lenA (consA (varC 5) nilA))) (conC (.int 1)) [some (.val (.ref s)), some (.val (.int 6)), some (.val (.int 14)), some (.val (.int P)), some (.val (.int W)), some (.val (.ref f)), some (.val (.ref r)), a, b, none, none] M5 = .ok (.int B) M5 := by
      show ((((lenA [.ref f] M5)).bind fun y M2 => opSub (.int 14) y M2).bind fun x M1 => opAdd x (.int 1) M1) = _
      rw [el]
      show R.ok (AV.int ((14 : Int) - ss.length + 1)) M5 = _
      rw [hB]
    refine (ev_draw (m := B) h4 (by omega) rfl eB (by omega) (by omega)).imp ?_
    rintro v M6 ⟨d, rfl, e0, e1, S6, f6⟩
    obtain ⟨E, rfl⟩ : ∃ E : Nat, d = E := ⟨d.toNat, by omega⟩
    and_intros
    refine okv (hrn E _ (by omega)) ?_
    refine more_loop S6 (by omega) (by omega) (by omega) (f6.get _ _ (by omega) (by omega) h1) (by omega) (by omega) h3 nds (by omega) ?_
    intro a' b' M7 ts k1 k2 k3 k4 k5 k6
    have F7 := k6 M l2 (F5.trans f6)
    and_intros
    refine ⟨rfl, ?_⟩
    refine (hmx (a := .ref f) (xs := ts.map Stp.av) k5 (by simp; omega) (.inr ⟨_, rfl, by omega, by omega, k1⟩) (by simp; unfold sizeLine; omega)).imp ?_
    rintro v M8 ⟨g, ys, rfl, hg, gg, pm, S8, f8⟩
    obtain ⟨us, rfl, pus⟩ := perm_map pm ts rfl
    and_intros
    have lt7 : f < M7.length := get_lt k1
    refine ok_tup (by simp) ⟨P, g, us, rfl, by omega, gg, by omega, by omega, fun st h => k2 st (pus.mem_iff.mp h), (pus.nodup_iff).mpr k3, by rw [pus.length_eq]; exact k4, S8.mono (by simp; omega), F7.trans f8⟩
end
end K01
end
end

section
set_option Elab.async false
set_option linter.all false
set_option autoImplicit false
set_option maxRecDepth 100000
set_option maxHeartbeats 4000000
section
/-! k01, the plain side: sorted steps; Web.__init__. -/
namespace K01
open PySem AM L2 AP
local macro_rules | `(tactic| and_intros) => `(tactic| repeat (first | (with_reducible first | refine ok_seq ?_ | refine ok_ret ?_ | refine ok_set ?_ | refine ok_drop ?_ | refine ok_con ?_ | refine ok_nil ?_ | refine ok_cons ?_ | refine ok_args ?_ | refine ok_bin ?_ | refine ok_un ?_ | refine ok_tru ?_ | refine ok_notT ?_ | refine ok_cmp ?_ | refine ok_par ?_ | refine ok_for ?_ | refine ok_skip ?_ | refine ok_notC ?_ | refine ok_ifC ?_ | refine ok_call ?_) | ((with_reducible apply ok_var); exact rfl)))
open PySem PySem.W PyProof.Rows
/-! ### sorted steps -/
def leS (a b : Stp) : Bool := dataLe false (fun d : PyData => d) a.pd b.pd
def srt (ss : List Stp) : List Stp := ss.mergeSort leS
theorem leS_total : TotalLe leS where
  trans a b c := (sortLe_total (listOrd itemOrd) false fun s : Stp => keyToks s.pd).trans a b c
  total a b := (sortLe_total (listOrd itemOrd) false fun s : Stp => keyToks s.pd).total a b
theorem toks_inj {s r : Stp} (h : keyToks s.pd = keyToks r.pd) : s = r := by
  obtain ⟨a, b, x, y, t, c⟩ := s
  obtain ⟨a', b', x', y', t', c'⟩ := r
  simp [Stp.pd, keyToks, keyToksAll] at h
  obtain ⟨h1, h2, h3, h4, h5, h6⟩ := h
  simp [h1, h2, h3, h4, h5, h6]
theorem leS_anti {a b : Stp} (h1 : leS a b = true) (h2 : leS b a = true) : a = b := by
  have h1' : (!(listOrd itemOrd).blt (keyToks b.pd) (keyToks a.pd)) = true := h1
  have h2' : (!(listOrd itemOrd).blt (keyToks a.pd) (keyToks b.pd)) = true := h2
  rw [Bool.not_eq_true'] at h1' h2'
  exact toks_inj ((listOrd itemOrd).total _ _ h2' h1')
theorem srt_perm (ss : List Stp) : (srt ss).Perm ss := List.mergeSort_perm _ _
theorem srt_eq {ss ts : List Stp} (h : ss.Perm ts) : srt ss = srt ts := by
  refine List.Perm.eq_of_pairwise (le := fun a b => leS a b = true) ?_ (sort_pairwise leS_total ss) (sort_pairwise leS_total ts) (((srt_perm ss).trans h).trans (srt_perm ts).symm)
  intro a b _ _ h1 h2
  exact leS_anti h1 h2
theorem srt_srt (ss : List Stp) : srt (srt ss) = srt ss := srt_eq (srt_perm ss)
theorem sortA_av {M : AH} (ss : List Stp) : sortA M (ss.map Stp.av) = (srt ss).map Stp.av := by
  unfold sortA srt
  refine (sort_maps Stp.av fun a _ b _ => ?_).symm
  have e (s : Stp) : datK M s.av = s.pd := by unfold datK; rw [datS_av]; rfl
  show leS a b = !(listOrd itemOrd).blt (keyToks (datK M b.av)) (keyToks (datK M a.av))
  rw [e, e]
  rfl
theorem sorted_okS {M : AH} {a : AV} {ss : List Stp} (h : lstOf a M = some (ss.map Stp.av)) (hl : ss.length < 1000000) : sortedA [a] M = .ok (.ref M.length) (M ++ [.lst ((srt ss).map Stp.av)]) := by
  have hl2 : (ss.map Stp.av).length ≤ sizeLine := by simp; unfold sizeLine; omega
  have hl3 : ((srt ss).map Stp.av).length ≤ sizeLine := by simp [(srt_perm ss).length_eq]; unfold sizeLine; omega
  unfold sortedA
  simp only [h, if_pos (And.intro (sort_ok (M := M) ss) hl2), sortA_av]
  unfold newL
  rw [if_pos hl3]
theorem init_okS {s n : Nat} {p : Int} {a : AV} {zs : List AV} {ss : List Stp} {M : AH} (I : Its s n a zs M) (L : stps s n M zs ss) (nd : ss.Nodup) (hl : ss.length < 1000000) (hp : 1 ≤ p) (ho : ∀ st ∈ ss, stepB p st = true) :
    OkR (f_Web_init [.val (.ref M.length), .val (.int p), .val a] (M ++ [.ins "Web" []])) fun r M' => r = .non ∧ Grw M M' ∧ ∃ j : Nat, WebIs p (srt ss) M.length j M' ∧ M.length < j := by
  refine ok_fn (ok_seq (if_f ?_))
  and_intros
  refine ⟨rfl, okv isp_int (okv (a := true) (M := M ++ [.ins "Web" []]) (by simp [truA, hp]) ⟨rfl, ?_⟩)⟩
  and_intros
  have g0 : Grw M (M ++ [.ins "Web" []]) := Grw.app
  have w0 : (M ++ [.ins "Web" []])[M.length]? = some (.ins "Web" []) := by simp
  generalize hM : M ++ [AO.ins "Web" []] = M0 at g0 w0
  have hlen : M.length < M0.length := get_lt w0
  have e1 : callX 2 f_first_bad (consX (varC 2) (consL 4 1 [1] (callC 2 f_is_step (consA (varC 0) (consA (varC 1) nilA))) nilX)) (startL 5 [.val (.ref M.length), .val (.int p), .val a]) M0
      = f_first_bad [.val a, .clo 5 (lamF 1 [1] (startL 5 [.val (.ref M.length), .val (.int p), .val a]) (callC 2 f_is_step (consA (varC 0) (consA (varC 1) nilA))))] M0 := rfl
  rw [e1]
  refine (first_bad_ok (I.ext g0) (LikeL.fr g0.fr L) nd hl (by decide) ?_).imp ?_
  · intro v st M1 hst _ hv
    show OkR (f_is_step [.val v, .val (.int p)] M1) _
    refine (is_step_ok (StpIs.of hv)).imp ?_
    rintro r M2 ⟨rfl, rfl⟩
    exact ⟨by rw [ho st hst], rfl⟩
  rintro r M1 ⟨rfl, g1⟩
  refine ok_seq (if_f ?_)
  and_intros
  refine okv (a := .bl false) (M := M1) rfl ⟨_, rfl, rfl, ?_⟩
  and_intros
  refine ok_fld ?_
  and_intros
  have w1 := g1.get _ _ w0
  have e2 : setF "Web" "own_places" (.ref M.length) (.int p) M1 = .ok () (M1.set M.length (.ins "Web" [("own_places", .int p)])) := by
    simp [setF, w1, putA]
  refine okv e2 (ok_fld ?_)
  have g2 : Grw M (M1.set M.length (.ins "Web" [("own_places", .int p)])) := (g0.trans g1).fresh (Nat.le_refl _)
  have w2 : (M1.set M.length (.ins "Web" [("own_places", .int p)]))[M.length]? = some (.ins "Web" [("own_places", .int p)]) := set_get w1
  generalize M1.set M.length (.ins "Web" [("own_places", .int p)]) = M2 at g2 w2
  and_intros
  refine ok_lcT (I.ext g2) (LikeL.fr g2.fr L) hl rfl (by simp [startL]) ?_
  intro M3 g3 h3
  and_intros
  have e4 := sorted_okS (M := M3) (ss := ss) (a := .ref (List.length M2)) (by simp [lstOf, h3]) hl
  refine okv e4 ?_
  and_intros
  have w4 : (M3 ++ [AO.lst ((srt ss).map Stp.av)])[M.length]? = some (.ins "Web" [("own_places", .int p)]) := app_get (g3.get _ _ w2)
  have h4 : (M3 ++ [AO.lst ((srt ss).map Stp.av)])[M3.length]? = some (.lst ((srt ss).map Stp.av)) := by simp
  have lt3 : M.length < M3.length := get_lt (g3.get _ _ w2)
  have e5 : setF "Web" "own_steps" (.ref M.length) (.ref M3.length) (M3 ++ [AO.lst ((srt ss).map Stp.av)]) = .ok () ((M3 ++ [AO.lst ((srt ss).map Stp.av)]).set M.length (.ins "Web" [("own_places", .int p), ("own_steps", .ref M3.length)])) := by
    unfold setF
    simp only [w4]
    rfl
  refine okv e5 ⟨rfl, ((g2.trans g3).trans Grw.app).fresh (Nat.le_refl _), M3.length, ⟨set_get w4, ?_⟩, lt3⟩
  rw [set_ne (by omega)]
  exact h4
end K01
end
section
/-! k01, the plain side: first_bad, first_wrong. -/
namespace K01
open PySem AM L2 AP
local macro_rules | `(tactic| and_intros) => `(tactic| repeat (first | (with_reducible first | refine ok_seq ?_ | refine ok_ret ?_ | refine ok_set ?_ | refine ok_drop ?_ | refine ok_con ?_ | refine ok_nil ?_ | refine ok_cons ?_ | refine ok_args ?_ | refine ok_bin ?_ | refine ok_un ?_ | refine ok_tru ?_ | refine ok_notT ?_ | refine ok_cmp ?_ | refine ok_par ?_ | refine ok_for ?_ | refine ok_skip ?_ | refine ok_notC ?_ | refine ok_ifC ?_ | refine ok_call ?_) | ((with_reducible apply ok_var); exact rfl)))
/-- things that stand as keys -/
structure KeyF {α : Type} [DecidableEq α] (av : α → AV) (key : α → NestedKey) : Prop where
  ke : ∀ s, (av s).key = some (key s)
  inj : ∀ s r, key s = key r ↔ s = r
  ok : ∀ s (ss : List α), dOk (av s) (key s) (ss.map fun s => (av s, AV.bl true)) = true
section
variable {α : Type} [DecidableEq α] {av : α → AV} {key : α → NestedKey}
def kvF (av : α → AV) (ss : List α) : List (AV × AV) := ss.map fun s => (av s, .bl true)
theorem KeyF.has (K : KeyF av key) {s : α} : ∀ ss : List α, dhas (kvF av ss) (key s) = decide (s ∈ ss)
  | [] => by simp [dhas, kvF]
  | r :: ss => by
    have := KeyF.has K (s := s) ss
    unfold dhas kvF at this ⊢
    simp only [List.map_cons, List.any_cons, this, K.ke, Option.some.injEq, K.inj, List.mem_cons]
    by_cases h : r = s
    · simp [h]
    · have h2 : ¬ s = r := fun e => h e.symm
      simp [h, h2]
theorem KeyF.in_ (K : KeyF av key) {M : AH} {d : Nat} {ss : List α} {s : α} (h : M[d]? = some (.dct (kvF av ss))) : opIn false (av s) (.ref d) M = .ok (.bl (decide (s ∈ ss))) M := by
  have c : dctOf (.ref d) M = some (d, kvF av ss) := by simp [dctOf, h]
  have i : isD (.ref d) M = true := by simp [isD, c]
  have o : dOk (av s) (key s) (kvF av ss) = true := K.ok s ss
  unfold opIn
  rw [if_pos i]
  unfold dInA dk2
  rw [c, K.ke]
  simp only [o, if_true, K.has]
  rfl
theorem KeyF.put (K : KeyF av key) {M : AH} {d : Nat} {ss : List α} {s : α} (h : M[d]? = some (.dct (kvF av ss))) (hl : ss.length < 1000000) : ∃ rs, setA (.ref d) (av s) (.bl true) M = .ok () (M.set d (.dct (kvF av rs))) ∧ rs.length ≤ ss.length + 1 ∧ ∀ r, r ∈ rs ↔ r ∈ ss ∨ r = s := by
  have c : dctOf (.ref d) M = some (d, kvF av ss) := by simp [dctOf, h]
  have i : isD (.ref d) M = true := by simp [isD, c]
  have l : (kvF av ss).length < sizeLine := by simp [kvF]; unfold sizeLine; omega
  have o : dOk (av s) (key s) (kvF av ss) = true := K.ok s ss
  unfold setA
  rw [if_pos i]
  unfold dPutA dk2
  rw [c, K.ke]
  simp only [o, if_true, if_pos l]
  unfold dput
  rw [K.has]
  by_cases q : s ∈ ss
  · refine ⟨ss, ?_, by omega, fun r => ⟨.inl, fun h => h.elim id fun e => by rw [e]; exact q⟩⟩
    rw [if_pos (by simpa using q)]
    have : ((kvF av ss).map fun p => if p.1.key = some (key s) then (p.1, AV.bl true) else p) = kvF av ss := by
      unfold kvF
      rw [List.map_map]
      refine List.map_congr_left fun r _ => ?_
      simp only [Function.comp]
      split <;> rfl
    rw [this]
  · refine ⟨ss ++ [s], ?_, by simp, fun r => by simp⟩
    rw [if_neg (by simpa using q)]
    simp [kvF]
theorem keyS : KeyF Stp.av Stp.key := ⟨fun s => key_av, fun s r => key_inj, fun s ss => dok_kv ss⟩
theorem keyI : KeyF AV.int NestedKey.num := ⟨fun s => rfl, fun s r => by simp, fun s ss => by
  have h1 : ((ss.map fun s => (AV.int s, AV.bl true)).all fun p => isFl p.1) = true := by simp [isFl]
  unfold dOk
  rw [h1]
  rfl⟩
/-- what first_bad finds behind the good ones -/
inductive Tail (av : α → AV) (F : List AV → AH → R AV) (good : List α) (M : AH) : List AV → AV → Prop
  | fin : Tail av F good M [] .non
  | bad {v : AV} {rest : List AV} : (∀ M', Grw M M' → OkR (F [v] M') fun r M2 => r = .bl false ∧ M2 = M') → Tail av F good M (v :: rest) (.int good.length)
  | twice {v : AV} {x : α} {rest : List AV} : x ∈ good → (∀ M', Grw M M' → OkR (F [v] M') fun r M2 => r = .bl true ∧ M2 = M') → (∀ M', Grw M M' → OkR (f_as_tuples 30 [.val v] M') fun r M2 => r = av x ∧ Grw M' M2) → Tail av F good M (v :: rest) (.int good.length)
theorem fb_gen (K : KeyF av key) {s n k : Nat} {a res : AV} {gs tail : List AV} {good : List α} {F : List AV → AH → R AV} {M : AH} {R : AV → α → Prop} (I : Its s n a (gs ++ tail) M) (hR : All2 R gs good) (nd : good.Nodup) (hl : good.length < 1000000) (hk : k ≤ 32)
    (hF : ∀ v x M', R v x → Grw M M' → OkR (F [v] M') fun r M2 => r = .bl true ∧ M2 = M') (hA : ∀ v x M', R v x → Grw M M' → OkR (f_as_tuples 30 [.val v] M') fun r M2 => r = av x ∧ Grw M' M2) (T : Tail av F good M tail res) :
    OkR (f_first_bad [.val a, .clo k F] M) fun r M' => r = res ∧ Grw M M' := by
  obtain ⟨t, h1, h2⟩ := ty_its I
  refine ok_fn (ok_seq (if_f ?_))
  and_intros
  refine ⟨rfl, okv (is_list_ok h1 h2) (okv (a := true) (M := M) rfl ⟨rfl, ?_⟩)⟩
  and_intros
  refine okv (a := .ref M.length) (M := M ++ [.dct []]) rfl ?_
  and_intros
  have I1 : Its s n a (gs ++ tail) (M ++ [.dct []]) := I.ext Grw.app
  obtain ⟨it, hw, w⟩ := I1.walk
  have he : enumA [a] (M ++ [.dct []]) = .ok ⟨enumFrom 0 it.items, it.guard⟩ (M ++ [.dct []]) := by
    simp only [enumA, hw]
  refine OkR.bind ?_
  and_intros
  refine okv he ?_
  rw [w.items]
  refine OkS.imp (ok_loop (N := fun _ M' => res = .non ∧ Grw M M') (T := fun r M' => r = res ∧ Grw M M') (fun rest vs' M' => (∃ (zs : List AV) (done todo rs : List α) (q1 q2 : Option SV), rest = enumFrom done.length (zs ++ tail) ∧ All2 R zs todo ∧ good = done ++ todo ∧ M'[M.length]? = some (.dct (kvF av rs)) ∧ rs.length ≤ done.length ∧ (∀ r, r ∈ rs ↔ r ∈ done) ∧ Grw M M' ∧ vs' = [some (.val a), some (.clo k F), some (.val (.ref M.length)), q1, q2]))
    ?ok ?step ?fin _ _ _ ⟨gs, [], good, [], none, none, rfl, hR, rfl, by simp [kvF], by simp, by simp, Grw.app, rfl⟩) ?after (fun _ _ z => z)
  case ok =>
    rintro xs vs' M' ⟨_, _, _, _, _, _, _, _, _, _, _, _, g, _⟩
    exact w.ok _ (I.ext g)
  case fin =>
    rintro vs' M' ⟨zs, done, todo, rs, q1, q2, e, h2, hs, _, _, _, g, _⟩
    cases zs with
    | cons _ _ => cases e
    | nil =>
      cases tail with
      | cons _ _ => cases e
      | nil =>
        cases T
        exact ⟨rfl, g⟩
  case after =>
    rintro vs' M' ⟨rfl, g⟩
    and_intros
    exact ⟨rfl, g⟩
  case step =>
    rintro x rest vs' M' ⟨zs, done, todo, rs, q1, q2, e, h2, hs, hd, hlen, hm, g, rfl⟩
    cases h2 with
    | nil =>
      rw [List.append_nil] at hs
      subst hs
      cases T with
      | fin => cases e
      | @bad v rest' hb =>
        obtain ⟨rfl, rfl⟩ := List.cons.inj e
        refine ok_turn2 (ok_seq (if_t (orT_t ?_)))
        and_intros
        refine ok_clo rfl hk ?_
        and_intros
        refine (hb M' g).imp ?_
        rintro r M2 ⟨rfl, rfl⟩
        refine okv (a := false) (M := M2) rfl ⟨rfl, rfl, ?_⟩
        and_intros
        exact ⟨rfl, g⟩
      | @twice v x rest' hx hb ha =>
        obtain ⟨rfl, rfl⟩ := List.cons.inj e
        refine ok_turn2 (ok_seq (if_t (orT_f ?_)))
        and_intros
        refine ok_clo rfl hk ?_
        and_intros
        refine (hb M' g).imp ?_
        rintro r M2 ⟨rfl, rfl⟩
        refine okv (a := true) (M := M2) rfl ⟨rfl, ?_⟩
        and_intros
        refine ⟨rfl, (ha M2 g).imp ?_⟩
        rintro r M3 ⟨rfl, g3⟩
        and_intros
        refine okv (K.in_ (g3.get _ _ hd)) ⟨_, rfl, by simp [hm, hx], ?_⟩
        and_intros
        exact ⟨rfl, g.trans g3⟩
    | @cons v st zs' todo' r0 t0 =>
      obtain ⟨rfl, rfl⟩ := List.cons.inj e
      refine ok_turn2 (ok_seq (if_f (orT_f ?_)))
      and_intros
      refine ok_clo rfl hk ?_
      and_intros
      refine (hF v st M' r0 g).imp ?_
      rintro r M2 ⟨rfl, rfl⟩
      refine okv (a := true) (M := M2) rfl ⟨rfl, ?_⟩
      and_intros
      refine ⟨rfl, (hA v st M2 r0 g).imp ?_⟩
      rintro r M3 ⟨rfl, g3⟩
      and_intros
      have nin : ¬ st ∈ rs := by
        rw [hm]
        intro z
        rw [hs] at nd
        exact (List.nodup_append.mp nd).2.2 st z st (List.mem_cons_self ..) rfl
      refine okv (K.in_ (g3.get _ _ hd)) ⟨_, rfl, by simp [nin], ?_⟩
      and_intros
      refine ok_asg ?_
      and_intros
      refine ok_sub ?_
      and_intros
      refine ⟨rfl, (hA v st M3 r0 (g.trans g3)).imp ?_⟩
      rintro r M4 ⟨rfl, g4⟩
      have hd4 := g4.get _ _ (g3.get _ _ hd)
      have hb : rs.length < 1000000 := by
        have : done.length ≤ good.length := by rw [hs]; simp
        omega
      obtain ⟨rs', e5, l5, m5⟩ := K.put (s := st) hd4 hb
      refine okv e5 ⟨zs', done ++ [st], todo', rs', _, _, by simp, t0, by rw [hs]; simp, set_get hd4, by simp; omega, fun r => by rw [m5, hm]; simp, ((g.trans g3).trans g4).fresh (Nat.le_refl _), rfl⟩
/-- what is no list -/
theorem fb_not {k : Nat} {a : AV} {t : AT} {F : List AV → AH → R AV} {M : AH} (h1 : tyA fns ws M a = some t) (h2 : isCls ws t LT = some false) : f_first_bad [.val a, .clo k F] M = .ok (.int 0) M := by
  have h3 : notT (truC (callC 1 f_is_list (consA (varC 0) nilA))) (startL 5 [.val a, .clo k F]) M = .ok true M := by
    show ((f_is_list [.val a] M).bind truA).bind _ = _
    rw [is_list_ok h1 h2]; rfl
  unfold f_first_bad fnRun c_first_bad seqC ifS
  rw [h3]
  rfl
end
end K01
end
section
/-! k01, the plain side: exceptions, doors. -/
namespace K01
open PySem AM L2 AP
local macro_rules | `(tactic| and_intros) => `(tactic| repeat (first | (with_reducible first | refine ok_seq ?_ | refine ok_ret ?_ | refine ok_set ?_ | refine ok_drop ?_ | refine ok_con ?_ | refine ok_nil ?_ | refine ok_cons ?_ | refine ok_args ?_ | refine ok_bin ?_ | refine ok_un ?_ | refine ok_tru ?_ | refine ok_notT ?_ | refine ok_cmp ?_ | refine ok_par ?_ | refine ok_for ?_ | refine ok_skip ?_ | refine ok_notC ?_ | refine ok_ifC ?_ | refine ok_call ?_) | ((with_reducible apply ok_var); exact rfl)))
/-! ### exceptions -/
def XS (r : RS) (c : Str) (fs : List (Str × AV)) (P : AH → Prop) : Prop := ∃ vs M, r = .exc c fs vs M ∧ P M
def XR {α : Type} (r : R α) (c : Str) (fs : List (Str × AV)) (P : AH → Prop) : Prop := ∃ M, r = .exc c fs M ∧ P M
section
variable {c x f : Str} {fs : List (Str × AV)} {P : AH → Prop} {vs : AM.Loc} {M : AH}
theorem OkS.nx {r : RS} {N : AM.Loc → AH → Prop} (h : OkS r N fun _ _ => False) : ∃ vs1 M1, r = .nx vs1 M1 ∧ N vs1 M1 := by
  cases r with
  | nx vs M => exact ⟨vs, M, rfl, h⟩
  | rt a M => exact h.elim
  | _ => exact h.elim
theorem x_fn {n : Nat} {b : CS} {as : List SV} (h : XS (b (startL n as) M) c fs P) : XR (fnRun n b as M) c fs P := by
  obtain ⟨vs, M', e, q⟩ := h
  exact ⟨M', by unfold fnRun; rw [e]; rfl, q⟩
theorem x_seq0 {a b : CS} (h : XS (a vs M) c fs P) : XS (seqC a b vs M) c fs P := by
  obtain ⟨vs', M', e, q⟩ := h
  exact ⟨vs', M', by unfold seqC; rw [e], q⟩
theorem x_seq1 {a b : CS} (h : OkS (a vs M) (fun vs1 M1 => XS (b vs1 M1) c fs P) fun _ _ => False) : XS (seqC a b vs M) c fs P := by
  obtain ⟨vs1, M1, e, vs', M', e2, q⟩ := OkS.nx h
  exact ⟨vs', M', by unfold seqC; rw [e]; exact e2, q⟩
theorem x_if_t {t : CT} {a b : CS} (h : OkR (t vs M) fun k M1 => k = true ∧ XS (a vs M1) c fs P) : XS (ifS t a b vs M) c fs P := by
  obtain ⟨k, M1, e, rfl, vs', M', e2, q⟩ := h.eq
  exact ⟨vs', M', by unfold ifS; rw [e]; exact e2, q⟩
theorem x_raise {ce : CE} (h : OkR (ce vs M) fun v M1 => fs = [(f, v)] ∧ P M1) : XS (raiseC x f ce vs M) x fs P := by
  obtain ⟨v, M1, e, rfl, q⟩ := h.eq
  exact ⟨vs, M1, by unfold raiseC; rw [e]; rfl, q⟩
theorem x_fld {cn fl : Str} {co cv : CE} (h : XR (cv vs M) c fs P) : XS (fldS cn fl co cv vs M) c fs P := by
  obtain ⟨M', e, q⟩ := h
  exact ⟨vs, M', by unfold fldS; rw [e]; rfl, q⟩
theorem x_make {cn : Str} {n : Nat} {F : List SV → AH → R AV} {r : CA} (h : OkR (r vs M) fun as M1 => XR (makeA cn n F as M1) c fs P) : XR (makeC cn n F r vs M) c fs P := by
  obtain ⟨as, M1, e, M', e2, q⟩ := h.eq
  exact ⟨M', by unfold makeC; rw [e]; exact e2, q⟩
theorem x_makeA {cn : Str} {n : Nat} {F : List SV → AH → R AV} {as : List AV} (hl : as.length + 1 = n) (h : XR (F (.val (.ref M.length) :: as.map .val) (M ++ [.ins cn []])) c fs P) : XR (makeA cn n F as M) c fs P := by
  obtain ⟨M', e, q⟩ := h
  exact ⟨M', by unfold makeA; rw [if_pos hl, e]; rfl, q⟩
end
/-! ### places, positive numbers -/
theorem isw_not {v : AV} {t : AT} {M : AH} (h : tyA fns ws M v = some t) (w : wholeT t = false) : f_is_whole [.val v] M = .ok (.bl false) M := by
  obtain ⟨r, M', e, rfl, rfl⟩ := (is_whole_ok h).eq
  rw [e, w]
theorem ispl_not {v : AV} {t : AT} {p : Int} {M : AH} (h : tyA fns ws M v = some t) (w : wholeT t = false) : f_is_place [.val v, .val (.int p)] M = .ok (.bl false) M := by
  have e : OkR (f_is_place [.val v, .val (.int p)] M) fun r M' => r = .bl false ∧ M' = M := by
    refine ok_fn (ok_ret (andC_f (ok_call (ok_cons (ok_var (a := v) rfl (ok_nil ⟨rfl, okv (isw_not h w) ⟨rfl, rfl, rfl⟩⟩))))))
  obtain ⟨r, M', e, rfl, rfl⟩ := e.eq
  exact e
theorem isp_not {v : AV} {t : AT} {M : AH} (h : tyA fns ws M v = some t) (w : wholeT t = false) : f_is_positive [.val v] M = .ok (.bl false) M := by
  have e : OkR (f_is_positive [.val v] M) fun r M' => r = .bl false ∧ M' = M := by
    refine ok_fn (ok_ret (andC_f (ok_call (ok_cons (ok_var (a := v) rfl (ok_nil ⟨rfl, okv (isw_not h w) ⟨rfl, rfl, rfl⟩⟩))))))
  obtain ⟨r, M', e, rfl, rfl⟩ := e.eq
  exact e
/-! ### a web that is refused -/
theorem web_places {v a : AV} {M : AH} (h : ∀ M', Grw M M' → f_is_positive [.val v] M' = .ok (.bl false) M') : XR (makeA "Web" 3 f_Web_init [v, a] M) "BadPlaces" [("places", v)] (Grw M) := by
  refine x_makeA rfl (x_fn (x_seq0 (x_if_t (ok_notT (ok_tru (ok_call (ok_cons (ok_var (a := v) rfl (ok_nil ⟨rfl, okv (h _ Grw.app) (okv (a := false) (M := M ++ [.ins "Web" []]) rfl ⟨rfl, ?_⟩)⟩)))))))))
  exact x_raise (ok_var (a := v) rfl ⟨rfl, Grw.app⟩)
theorem web_steps {s n : Nat} {p : Int} {a : AV} {i : Int} {M : AH} (hp : 1 ≤ p) (h : ∀ (F : List AV → AH → R AV) (M' : AH), Grw M M' → (∀ v M2, F [v] M2 = f_is_step [.val v, .val (.int p)] M2) → OkR (f_first_bad [.val a, .clo 5 F] M') fun r M2 => r = .int i ∧ Grw M' M2) :
    XR (makeA "Web" 3 f_Web_init [.int p, a] M) "BadSteps" [("index", .int i)] (Grw M) := by
  refine x_makeA rfl (x_fn (x_seq1 (if_f ?_)))
  and_intros
  refine ⟨rfl, okv isp_int (okv (a := true) (M := M ++ [.ins "Web" []]) (by simp [truA, hp]) ⟨rfl, ?_⟩)⟩
  and_intros
  refine x_seq1 (ok_set ?_)
  have e1 : callX 2 f_first_bad (consX (varC 2) (consL 4 1 [1] (callC 2 f_is_step (consA (varC 0) (consA (varC 1) nilA))) nilX)) (startL 5 [.val (.ref M.length), .val (.int p), .val a]) (M ++ [.ins "Web" []])
      = f_first_bad [.val a, .clo 5 (lamF 1 [1] (startL 5 [.val (.ref M.length), .val (.int p), .val a]) (callC 2 f_is_step (consA (varC 0) (consA (varC 1) nilA))))] (M ++ [.ins "Web" []]) := rfl
  simp only [List.map_cons, List.map_nil]
  rw [e1]
  refine (h _ _ Grw.app fun v M2 => rfl).imp ?_
  rintro r M1 ⟨rfl, g1⟩
  refine x_seq0 (x_if_t (ok_cmp (ok_var (a := .int i) rfl (ok_con (okv (a := .bl true) (M := M1) rfl ⟨_, rfl, rfl, ?_⟩)))))
  exact x_raise (ok_var (a := .int i) rfl ⟨rfl, Grw.app.trans g1⟩)
theorem makeA_ok {c : Str} {n : Nat} {F : List SV → AH → R AV} {as : List AV} {M M' : AH} (hl : as.length + 1 = n) (e : F (.val (.ref M.length) :: as.map .val) (M ++ [.ins c []]) = .ok .non M') : makeA c n F as M = .ok (.ref M.length) M' := by
  unfold makeA
  rw [if_pos hl, e]
  rfl
/-- a web is made -/
theorem make_web {s n : Nat} {P : Nat} {a : AV} {zs : List AV} {ss : List Stp} {M : AH} (I : Its s n a zs M) (L : stps s n M zs ss) (nd : ss.Nodup) (hl : ss.length < 1000000) (hp : 1 ≤ P) (ho : ∀ st ∈ ss, stepB P st = true) {Q : AV → AH → Prop}
    (k : ∀ (j : Nat) (M' : AH), Grw M M' → WebIs P (srt ss) M.length j M' → M.length < j → Q (.ref M.length) M') : OkR (makeA "Web" 3 f_Web_init [.int P, a] M) Q := by
  have h := init_okS (p := (P : Int)) I L nd hl (by omega) ho
  obtain ⟨r, M', e, rfl, g, j, W, lt⟩ := h.eq
  exact okv (makeA_ok (as := [.int P, a]) rfl e) (k j M' g W lt)
end K01
end
end

section
set_option Elab.async false
set_option linter.all false
set_option autoImplicit false
set_option maxRecDepth 100000
set_option maxHeartbeats 4000000
section
/-! k01, the plain side: parts, compared. -/
namespace K01
open PySem AM L2 AP
local macro_rules | `(tactic| and_intros) => `(tactic| repeat (first | (with_reducible first | refine ok_seq ?_ | refine ok_ret ?_ | refine ok_set ?_ | refine ok_drop ?_ | refine ok_con ?_ | refine ok_nil ?_ | refine ok_cons ?_ | refine ok_args ?_ | refine ok_bin ?_ | refine ok_un ?_ | refine ok_tru ?_ | refine ok_notT ?_ | refine ok_cmp ?_ | refine ok_par ?_ | refine ok_for ?_ | refine ok_skip ?_ | refine ok_notC ?_ | refine ok_ifC ?_ | refine ok_call ?_) | ((with_reducible apply ok_var); exact rfl)))
/-! ### webs and parts, compared -/
theorem ty_web {w j : Nat} {p : Int} {rs : List Stp} {M : AH} (W : WebIs p rs w j M) : tyA fns ws M (.ref w) = some (.own "Web") := by
  simp only [tyA, W.1]
  rfl
theorem eqv_pds : ∀ {ss ts : List Stp}, PyData.eqvAll (ss.map Stp.pd) (ts.map Stp.pd) = decide (ss = ts)
  | [], [] => by simp [PyData.eqvAll]
  | [], _ :: _ => by simp [PyData.eqvAll]
  | _ :: _, [] => by simp [PyData.eqvAll]
  | s :: ss, t :: ts => by
    simp only [List.map_cons, PyData.eqvAll, eqv_pd, eqv_pds (ss := ss) (ts := ts), List.cons.injEq]
    by_cases h1 : s = t <;> by_cases h2 : ss = ts <;> simp [h1, h2]
theorem eq_lists {M : AH} {i j : Nat} {ss ts : List Stp} (h : M[i]? = some (.lst (ss.map Stp.av))) (g : M[j]? = some (.lst (ts.map Stp.av))) : opEq (.ref i) (.ref j) M = .ok (.bl (decide (ss = ts))) M := by
  unfold opEq
  rw [datS_steps h, datS_steps g]
  simp only [PyData.eqv, eqv_pds]
theorem eqv_ints : ∀ {ss ts : List Int}, PyData.eqvAll (ss.map PyData.int) (ts.map PyData.int) = decide (ss = ts)
  | [], [] => by simp [PyData.eqvAll]
  | [], _ :: _ => by simp [PyData.eqvAll]
  | _ :: _, [] => by simp [PyData.eqvAll]
  | s :: ss, t :: ts => by
    simp only [List.map_cons, PyData.eqvAll, PyData.eqv, eqv_ints (ss := ss) (ts := ts), List.cons.injEq]
    by_cases h1 : s = t <;> by_cases h2 : ss = ts <;> simp [h1, h2]
theorem dat_ints {M : AH} {k : Nat} : ∀ xs : List Int, datAll (dat M (k + 1)) (xs.map AV.int) = some (xs.map PyData.int) := fun xs => datAll_map (fun x => rfl) xs
theorem datS_intsT {M : AH} {xs : List Int} : datS M (.tup (xs.map AV.int)) = some (.tuple (xs.map PyData.int)) := by
  have e : dat M 40 (.tup (xs.map AV.int)) = some (.tuple (xs.map PyData.int)) := by
    show (datAll (dat M 39) (xs.map AV.int)).map PyData.tuple = _
    rw [dat_ints (k := 38)]
    rfl
  unfold datS
  rw [e]
  have s : SeqAt.shaped (.tuple (xs.map PyData.int)) = true := by
    have := depth_ints xs
    simp [SeqAt.shaped, PyData.canLay0, PyData.depth, canLay_ints]
    omega
  simp only [s, if_true]
theorem eq_intsT {M : AH} {xs ys : List Int} : opEq (.tup (xs.map AV.int)) (.tup (ys.map AV.int)) M = .ok (.bl (decide (xs = ys))) M := by
  unfold opEq
  rw [datS_intsT, datS_intsT]
  simp only [PyData.eqv, eqv_ints]
section
variable {P P' w w' j j' : Nat} {rs rs' : List Stp} {M : AH}
theorem web_eq_ok (W : WebIs P rs w j M) (W' : WebIs P' rs' w' j' M) : f_Web_eq [.val (.ref w), .val (.ref w')] M = .ok (.bl (decide (P = P') && decide (rs = rs'))) M := by
  have e1 : OkR (f_Web_eq [.val (.ref w), .val (.ref w')] M) fun r M' => r = .bl (decide (P = P') && decide (rs = rs')) ∧ M' = M := by
    refine ok_fn (ok_seq (if_f ?_))
    have is : isA2 fns ws [.ref w', .glo "Web"] M = .ok (.bl true) M := by
      have t := ty_web W'
      unfold isA2 isA
      simp only [t]
      rfl
    refine ok_notT (ok_tru (ok_args (ok_cons (ok_var (a := .ref w') rfl (ok_cons (ok_con (ok_nil (okv is (okv (a := true) (M := M) rfl ⟨rfl, ?_⟩)))))))))
    refine ok_skip (ok_ret (ok_andC (ok_bin ?_)))
    and_intros
    refine okv (fld_places W) ?_
    and_intros
    refine okv (fld_places W') ?_
    refine okv opEq_int ⟨_, rfl, ?_⟩
    by_cases q : P = P'
    · subst q
      rw [if_pos (by simp)]
      and_intros
      refine okv (fld_steps W) ?_
      and_intros
      refine okv (fld_steps W') ?_
      refine okv (eq_lists W.2 W'.2) ⟨by simp, rfl⟩
    · rw [if_neg (by simp; omega)]
      exact ⟨by simp [q], rfl⟩
  obtain ⟨r, M', e, rfl, rfl⟩ := e1.eq
  exact e
theorem opEqX_web {es : List (Str × (List SV → AH → R AV))} (he : es.lookup ("Web" : Str) = some f_Web_eq) (W : WebIs P rs w j M) (W' : WebIs P' rs' w' j' M) : opEqX fns ws es (.ref w) (.ref w') M = .ok (.bl (decide (P = P') && decide (rs = rs'))) M := by
  have i : insOf M w = some ("Web" : Str) := by simp only [insOf, W.1]
  unfold opEqX eqOwn
  simp only [i, he, ty_web W', web_eq_ok W W']
  rfl
end
theorem opEqX_tup {es : List (Str × (List SV → AH → R AV))} {xs : List AV} {b : AV} {M : AH} : opEqX fns ws es (.tup xs) b M = opEq (.tup xs) b M := by
  unfold opEqX eqOwn
  rfl
end K01
end
end

section
set_option Elab.async false
set_option linter.all false
set_option autoImplicit false
set_option maxRecDepth 100000
set_option maxHeartbeats 4000000
section
/-! k01, the plain side: lemmas. -/
namespace K01
open PySem AM L2 AP
local macro_rules | `(tactic| and_intros) => `(tactic| repeat (first | (with_reducible first | refine ok_seq ?_ | refine ok_ret ?_ | refine ok_set ?_ | refine ok_drop ?_ | refine ok_con ?_ | refine ok_nil ?_ | refine ok_cons ?_ | refine ok_args ?_ | refine ok_bin ?_ | refine ok_un ?_ | refine ok_tru ?_ | refine ok_notT ?_ | refine ok_cmp ?_ | refine ok_par ?_ | refine ok_for ?_ | refine ok_skip ?_ | refine ok_notC ?_ | refine ok_ifC ?_ | refine ok_call ?_) | ((with_reducible apply ok_var); exact rfl)))
theorem like_av {s n : Nat} {M : AH} {st : Stp} : Like s n M st.av st.av := .seq (.inl rfl) (.cons (.int _) (.cons (.int _) (.cons (.seq (.inl rfl) (.cons (.int _) (.cons (.int _) .nil))) (.cons (.int _) (.cons (.int _) .nil)))))
theorem like_avs {s n : Nat} {M : AH} : ∀ ws : List Stp, LikeL s n M (ws.map Stp.av) (ws.map Stp.av)
  | [] => .nil
  | st :: ws => .cons like_av (like_avs ws)
theorem node_av {st : Stp} : nodes st.av = 2 := by simp [Stp.av, Stp.am, nodes, nodesL]
theorem ok_new {as : List AV} {M : AH} {Q : AV → AH → Prop} (hl : as.length ≤ 1000) (h : ∀ (i : Nat) (M' : AH), Grw M M' → M.length ≤ i → i < M'.length → M'[i]? = some (.lst as) → Q (.ref i) M') : OkR (lstA as M) Q :=
  okv (lst_ok hl) (h _ _ Grw.app (Nat.le_refl _) (by simp) (by simp))
theorem ok_methO {vs : AM.Loc} {M : AH} {c m : Str} {n : Nat} {F : List SV → AH → R AV} {co : CE} {r : CA} {Q : AV → AH → Prop} (h : OkR (co vs M) fun a M1 => insHas c m a M1 = true ∧ OkR (r vs M1) fun as M2 => (a :: as).length = n ∧ OkR (F ((a :: as).map .val) M2) Q) : OkR (methO c m n F co r vs M) Q := by
  refine OkR.bind (h.imp fun a M1 z => ?_)
  rw [if_pos z.1]
  refine OkR.bind (z.2.imp fun as M2 z => ?_)
  rw [if_pos z.1]
  exact z.2
theorem ok_make {vs : AM.Loc} {M : AH} {c : Str} {n : Nat} {F : List SV → AH → R AV} {r : CA} {Q : AV → AH → Prop} (h : OkR (r vs M) fun as M1 => OkR (makeA c n F as M1) Q) : OkR (makeC c n F r vs M) Q := OkR.bind h
theorem ok_makeK {vs : AM.Loc} {M : AH} {c : Str} {n m : Nat} {F : List SV → AH → R AV} {p : List Nat} {r : CA} {Q : AV → AH → Prop} (h : OkR (r vs M) fun as M1 => OkR (makeKA c n F m p as M1) Q) : OkR (makeK c n F m p r vs M) Q := OkR.bind h
section
variable {P i w j : Nat} {ss : List Stp} {is os : List Int} {M M1 M2 M3 M' : AH} {Q : AV → AH → Prop}
theorem has_web {m : Str} {rs : List Stp} (h : WebIs P rs w j M) (e : ([("own_places", .int P), ("own_steps", .ref j)] : List (Str × AV)).lookup m = none) : insHas "Web" m (.ref w) M = true := by
  unfold insHas
  simp only [h.1, e]
  rfl
theorem srt_len (ss : List Stp) : (srt ss).length = ss.length := (srt_perm ss).length_eq
theorem list_tup {xs : List AV} {M : AH} (hl : xs.length ≤ 1000) : listA [.tup xs] M = .ok (.ref M.length) (M ++ [.lst xs]) := by
  unfold listA seqA newL
  simp only
  rw [if_pos (by unfold sizeLine; omega)]
theorem list_ref {i : Nat} {xs : List AV} {M : AH} (h : M[i]? = some (.lst xs)) (hl : xs.length ≤ 1000) : listA [.ref i] M = .ok (.ref M.length) (M ++ [.lst xs]) := by
  unfold listA seqA newL
  simp only [h]
  rw [if_pos (by unfold sizeLine; omega)]
theorem w_steps {rs : List Stp} (h : WebIs P rs w j M) (hl : rs.length ≤ 100) (k : ∀ (d : Nat) (M' : AH), Grw M M' → M'[d]? = some (.lst (rs.map Stp.av)) → M.length ≤ d → Q (.ref d) M') : OkR (f_Web_steps [.val (.ref w)] M) Q := by
  refine ok_fn (ok_ret ?_)
  and_intros
  refine okv (fld_steps h) ?_
  and_intros
  exact okv (list_ref h.2 (by simp; omega)) (k _ _ Grw.app (by simp) (Nat.le_refl _))
theorem w_places {rs : List Stp} (h : WebIs P rs w j M) (k : Q (.int P) M) : OkR (f_Web_places [.val (.ref w)] M) Q := by
  refine ok_fn (ok_ret ?_)
  and_intros
  exact okv (fld_places h) k
variable {vs : AM.Loc} {q : Nat}
theorem m_wplaces {co : CE} (h : OkR (co vs M) fun a M1 => ∃ w j rs, a = .ref w ∧ WebIs P rs w j M1 ∧ Q (.int P) M1) : OkR (methO "Web" "places" 1 f_Web_places co nilA vs M) Q := by
  refine ok_methO (h.imp ?_)
  rintro a M1 ⟨w, j, rs, rfl, W, z⟩
  exact ⟨has_web W rfl, ok_nil ⟨rfl, w_places W z⟩⟩
theorem m_wsteps {co : CE} (h : OkR (co vs M) fun a M1 => ∃ w j rs, a = .ref w ∧ WebIs P rs w j M1 ∧ rs.length ≤ 100 ∧ ∀ (d : Nat) (M' : AH), Grw M1 M' → M'[d]? = some (.lst (rs.map Stp.av)) → M1.length ≤ d → Q (.ref d) M') : OkR (methO "Web" "steps" 1 f_Web_steps co nilA vs M) Q := by
  refine ok_methO (h.imp ?_)
  rintro a M1 ⟨w, j, rs, rfl, W, hl, z⟩
  exact ⟨has_web W rfl, ok_nil ⟨rfl, w_steps W hl z⟩⟩
end
theorem sm_int {M : AH} {k : Nat} {i : Int} : Sm M (k + 1) (.int i) (.int i) := .sc (t := .int) (b := false) (fun _ _ => rfl) rfl rfl rfl rfl (fun M' _ => by
  show opEq (.int i) (.int i) M' = _
  rw [opEq_int]; simp)
theorem smt_av {M : AH} {k : Nat} {st : Stp} : Sm M (k + 3) st.av st.av :=
  .tup (by simp) (.cons sm_int (.cons sm_int (.cons (.tup (by simp) (.cons sm_int (.cons sm_int .nil))) (.cons sm_int (.cons sm_int .nil)))))
theorem smL_avs {M : AH} {k : Nat} : ∀ ws : List Stp, SmL M (k + 3) (ws.map Stp.av) (ws.map Stp.av)
  | [] => .nil
  | st :: ws => .cons smt_av (smL_avs ws)
theorem clear_ok {M : AH} {i : Nat} {xs : List AV} (h : M[i]? = some (.lst xs)) : mClear (.ref i) [] M = .ok .non (M.set i (.lst [])) := by
  unfold mClear
  simp only [h]
theorem makeKA_ok {c : Str} {n m : Nat} {F : List SV → AH → R AV} {perm : List Nat} {bs xs : List AV} {M M' : AH} (hp : permL perm (.ref M.length :: bs) = xs) (hl : bs.length = m) (hx : xs.length = n) (e : F (xs.map .val) (M ++ [.ins c []]) = .ok .non M') : makeKA c n F m perm bs M = .ok (.ref M.length) M' := by
  unfold makeKA
  rw [hp, if_pos ⟨hl, hx⟩, e]
  rfl
theorem cut_mid {xs : List AV} {k m : Nat} (h : k + m ≤ xs.length) : cutA xs (some (k : Int)) (some ((k + m : Nat) : Int)) = (xs.drop k).take m := by
  unfold cutA
  rw [HT.sIx_nat, HT.sIx_nat]
  have h1 : min k xs.length = k := by omega
  have h2 : min (k + m) xs.length - k = m := by omega
  rw [h1, h2]
theorem add_ok {i j : Nat} {xs ys : List AV} {M : AH} (h : M[i]? = some (.lst xs)) (g : M[j]? = some (.lst ys)) (hl : xs.length + ys.length ≤ 1000) : opAdd (.ref i) (.ref j) M = .ok (.ref M.length) (M ++ [.lst (xs ++ ys)]) := by
  simp only [opAdd, h, g, newL]
  rw [if_pos (by simp; unfold sizeLine; omega)]
/-- all but what X tells of stays -/
structure FrX (X : Nat → Prop) (M M' : AH) : Prop where
  len : M.length ≤ M'.length
  get : ∀ i o, ¬ X i → M[i]? = some o → M'[i]? = some o
theorem FrX.refl {X : Nat → Prop} {M : AH} : FrX X M M := ⟨Nat.le_refl _, fun _ _ _ h => h⟩
theorem FrX.trans {X : Nat → Prop} {M M1 M2 : AH} (a : FrX X M M1) (b : FrX X M1 M2) : FrX X M M2 := ⟨Nat.le_trans a.len b.len, fun i o h1 h => b.get i o h1 (a.get i o h1 h)⟩
theorem _root_.AP.Grw.frX {X : Nat → Prop} {M M1 : AH} (a : Grw M M1) : FrX X M M1 := ⟨a.len, fun i o _ h => a.get i o h⟩
theorem frX_set {X : Nat → Prop} {M : AH} {i : Nat} {o : AO} (h : X i) : FrX X M (M.set i o) := ⟨by simp, fun k o' hk hg => by rw [set_ne (fun e => hk (by rw [← e]; exact h))]; exact hg⟩
theorem ok_tg2 {N : AM.Loc → AH → Prop} {T : AV → AH → Prop} {vs : AM.Loc} {M : AH} {i j : Nat} {x y : AV} (h : N ((vs.set i (some (.val x))).set j (some (.val y))) M) : OkS (tupG 2 (consG (nameG i) (consG (nameG j) nilG)) (.tup [x, y]) vs M) N T := h
theorem any_bls {M : AH} {i : Nat} {bs : List Bool} (h : M[i]? = some (.lst (bs.map .bl))) : anyA [.ref i] M = .ok (.bl (bs.any id)) M := by
  have : lstOf (.ref i) M = some (bs.map .bl) := by simp [lstOf, h]
  unfold anyA
  simp only [this, Option.bind_some, blsOf_map]
theorem neY_lst {es : List (Str × (List SV → AH → R AV))} {i : Nat} {b : AV} {xs : List AV} {M : AH} (h : M[i]? = some (.lst xs)) (hb : neD fns (.ref i) b M = false) : opNeY fns ws es (.ref i) b M = opNe (.ref i) b M := by
  have e : insOf M i = none := by simp only [insOf, h]
  unfold opNeY opNeX eqOwn
  rw [hb]
  simp only [e, Bool.false_eq_true, if_false]
theorem neY_steps {es : List (Str × (List SV → AH → R AV))} {i j : Nat} {ss : List Stp} {M : AH} (h : M[i]? = some (.lst (ss.map Stp.av))) (g : M[j]? = some (.lst [])) : opNeY fns ws es (.ref i) (.ref j) M = .ok (.bl (!decide (ss = []))) M := by
  rw [neY_lst h rfl]
  exact ne_nil h g
theorem gt_ok {a b : Int} {M : AH} : opGt (.int a) (.int b) M = .ok (.bl (decide (b < a))) M := rfl
theorem lt_int {a b : Int} {M : AH} : opLt (.int a) (.int b) M = .ok (.bl (decide (a < b))) M := rfl
theorem XR.imp {α : Type} {r : R α} {c : Str} {fs : List (Str × AV)} {P Q : AH → Prop} (h : XR r c fs P) (k : ∀ M, P M → Q M) : XR r c fs Q := by
  obtain ⟨M, e, p⟩ := h
  exact ⟨M, e, k M p⟩
section
variable {F : List AV → AH → R AV} {M : AH} {v : AV}
def trB : CS := retC (argsC tupA (consA (conC (.str "told")) (consA (cloC (36) 0 nilA) nilA)))
theorem trB_x {c : Str} {fs : List (Str × AV)} {M1 : AH} (h : F [] M = .exc c fs M1) : trB (startL 2 [.clo 36 F]) M = .exc c fs (startL 2 [.clo 36 F]) M1 := by
  have e : cloC 36 0 nilA (startL 2 [.clo 36 F]) M = .exc c fs M1 := by
    show (if 36 ≤ 36 then (nilA (startL 2 [.clo 36 F]) M).bind F else .bad) = _
    rw [if_pos (Nat.le_refl _)]
    exact h
  unfold trB retC argsC consA
  simp only [conC, R.bind_ok]
  rw [e]
  rfl
theorem tup_str {x : Str} : tupA [.str x, v] M = .ok (.tup [.str x, v]) M := by
  unfold tupA
  exact if_pos (by simp; unfold sizeLine; decide)
def hC (c f y : Str) : Str × Option Nat × CS := (c, some 1, retC (argsC tupA (consA (conC (.str y)) (consA (exfC c 1 f) nilA))))
theorem h_rt {c f y : Str} {r : List (Str × Option Nat × CS)} {sv : SV} (he : em c c = some true) : handC em c [(f, v)] (hC c f y :: r) [some sv, none] M = .rt (.tup [.str y, v]) M := by
  have e : retC (argsC tupA (consA (conC (.str y)) (consA (exfC c 1 f) nilA))) (hdS (some 1) (.exc c [(f, v)]) [some sv, none]) M = .rt (.tup [.str y, v]) M := by
    have x : exfC c 1 f [some sv, some (.exc c [(f, v)])] M = .ok v M := by
      unfold exfC
      simp
    show thenS ((consA (conC (.str y)) (consA (exfC c 1 f) nilA) [some sv, some (.exc c [(f, v)])] M).bind tupA) _ _ = _
    unfold consA
    simp only [conC, R.bind_ok, consA, x, nilA, tup_str]
    rfl
  unfold hC handC
  rw [he]
  simp only [e]
  rfl
theorem h_next {c d f y : Str} {fs : List (Str × AV)} {r : List (Str × Option Nat × CS)} {vs : AM.Loc} (he : em c d = some false) : handC em c fs (hC d f y :: r) vs M = handC em c fs r vs M := by
  show (match em c d with | some true => _ | some false => _ | none => _) = _
  rw [he]
def hs4 : List (Str × Option Nat × CS) := [hC "BadPlaces" "places" "places", hC "BadSteps" "index" "steps"]
theorem tried_x {c f y : Str} (h : XR (F [] M) c [(f, v)] (Grw M)) (hh : ∀ M1, handC em c [(f, v)] hs4 [some (.clo 36 F), none] M1 = .rt (.tup [.str y, v]) M1) : OkR (f_law_tried [.clo 36 F] M) fun r M' => r = .tup [.str y, v] ∧ Grw M M' := by
  obtain ⟨M1, e, g⟩ := h
  have e2 : f_law_tried [.clo 36 F] M = .ok (.tup [.str y, v]) M1 := by
    show fnEnd (tryC em trB hs4 (startL 2 [.clo 36 F]) M) = _
    unfold tryC
    rw [trB_x e]
    show fnEnd (handC em c [(f, v)] hs4 [some (.clo 36 F), none] M1) = _
    rw [hh]
    rfl
  exact okv e2 ⟨rfl, g⟩
theorem tried_places (h : XR (F [] M) "BadPlaces" [("places", v)] (Grw M)) : OkR (f_law_tried [.clo 36 F] M) fun r M' => r = .tup [.str "places", v] ∧ Grw M M' :=
  tried_x h fun M1 => h_rt rfl
theorem tried_steps (h : XR (F [] M) "BadSteps" [("index", v)] (Grw M)) : OkR (f_law_tried [.clo 36 F] M) fun r M' => r = .tup [.str "steps", v] ∧ Grw M M' :=
  tried_x h fun M1 => (h_next rfl).trans (h_rt rfl)
end
theorem lam0 {js : List Nat} {vs loc : AM.Loc} {c : CE} {M : AH} (h : lamL js vs [] = loc) : lamF 0 js vs c [] M = c loc M := by
  unfold lamF
  have e : ([] : List AV).length = 0 := rfl
  rw [if_pos e]
  show c (lamL js vs []) M = _
  rw [h]
/-- a part is tried -/
theorem try_go {js : List Nat} {vs loc : AM.Loc} {r : CA} {M : AH} {c : Str} {fs : List (Str × AV)} (hl : lamL js vs [] = loc) (h : OkR (r loc M) fun as M1 => Grw M M1 ∧ XR (makeA "Web" 3 f_Web_init as M1) c fs (Grw M1)) :
    XR (lamF 0 js vs (makeC "Web" 3 f_Web_init r) [] M) c fs (Grw M) := by
  rw [lam0 hl]
  refine x_make (h.imp ?_)
  rintro as M1 ⟨g, x⟩
  exact x.imp fun M2 g2 => g.trans g2
theorem eq_si {x : Str} {i : Int} {M : AH} (h : PyData.strOk x = true) : datS M (.tup [.str x, .int i]) = some (.tuple [.str x, .int i]) := by
  have s : SeqAt.shaped (.tuple [.str x, .int i]) = true := by simp [SeqAt.shaped, PyData.canLay0, PyData.canLayAll0, PyData.depth, PyData.depthAll, h]
  show (if SeqAt.shaped (.tuple [.str x, .int i]) = true then some (PyData.tuple [.str x, .int i]) else none) = _
  rw [if_pos s]
theorem eqv_si {x : Str} {i : Int} : PyData.eqv (.tuple [.str x, .int i]) (.tuple [.str x, .int i]) = true := by
  simp [PyData.eqv, PyData.eqvAll]
theorem neY_si {x : Str} {i : Int} {M : AH} (h : PyData.strOk x = true) : opNeY fns ws [] (.tup [.str x, .int i]) (.tup [.str x, .int i]) M = .ok (.bl false) M := by
  show opNe (.tup [.str x, .int i]) (.tup [.str x, .int i]) M = _
  unfold opNe
  rw [eq_si h]
  simp only [eqv_si]
  rfl
theorem eqX_si {x : Str} {i : Int} {M : AH} (h : PyData.strOk x = true) : opEqX fns ws [] (.tup [.str x, .int i]) (.tup [.str x, .int i]) M = .ok (.bl true) M := by
  rw [opEqX_tup]
  unfold opEq
  rw [eq_si h]
  simp only [eqv_si]
theorem ok_tupSI {x : Str} {v : AV} {M : AH} {Q : AV → AH → Prop} (h : Q (.tup [.str x, v]) M) : OkR (tupA [.str x, v] M) Q := okv tup_str h
/-- a loop over odd things -/
theorem odds_for {r : CA} {body : CS} {vs : AM.Loc} {M : AH} {N : AM.Loc → AH → Prop} {T : AV → AH → Prop} {V : AM.Loc → Prop}
    (h : OkR (r vs M) fun as M1 => as.length ≤ 1000 ∧ (∀ v ∈ as, ∀ vs' M', V vs' → Grw M1 M' → OkS (body (vs'.set 5 (some (.val v))) M') (fun vs2 M2 => V vs2 ∧ Grw M' M2) T) ∧ V vs ∧ ∀ vs' M', V vs' → Grw M1 M' → N vs' M') :
    OkS (forC (valI (argsC lstA r)) (nameG 5) body vs M) N T := by
  refine ok_for (OkR.bind (ok_args (h.imp ?_)))
  rintro as M1 ⟨hl, hb, hv, hn⟩
  refine ok_new hl fun d M2 g2 _ _ gd => ?_
  have I : Its (d + 1) (d + 1) (.ref d) as M2 := .inr ⟨d, rfl, by omega, by omega, gd⟩
  obtain ⟨it, hw, wk⟩ := I.walk
  have ei : iterA (.ref d) M2 = .ok it M2 := by
    unfold iterA
    rw [hw]
  refine okv ei ?_
  rw [wk.items]
  refine OkS.imp (ok_loop (T := T) (N := fun vs' M' => V vs' ∧ Grw M2 M') (fun rest vs' M' => (∀ v ∈ rest, v ∈ as) ∧ V vs' ∧ Grw M2 M') (fun rest vs' M' hh => wk.ok _ (I.ext hh.2.2)) ?step (fun vs' M' hh => hh.2) _ _ _ ⟨fun _ h => h, hv, Grw.refl⟩) (fun vs' M' hh => hn vs' M' hh.1 (g2.trans hh.2)) (fun _ _ z => z)
  case step =>
    rintro v rest vs' M' ⟨hm, hV, g⟩
    refine ok_turn (OkS.imp (hb v (hm v (List.mem_cons_self ..)) vs' M' hV (g2.trans g)) ?_ (fun _ _ z => z))
    rintro vs2 M3 ⟨hV2, g3⟩
    exact ⟨fun u hu => hm u (List.mem_cons_of_mem _ hu), hV2, g.trans g3⟩
theorem ds_non {M : AH} : datS M .non = some .none := by
  have s : SeqAt.shaped .none = true := by simp [SeqAt.shaped, PyData.canLay0, PyData.depth]
  show (if SeqAt.shaped .none = true then some PyData.none else none) = _
  rw [if_pos s]
theorem ds_bl {M : AH} {b : Bool} : datS M (.bl b) = some (.bool b) := by
  have s : SeqAt.shaped (.bool b) = true := by simp [SeqAt.shaped, PyData.canLay0, PyData.depth]
  show (if SeqAt.shaped (.bool b) = true then some (PyData.bool b) else none) = _
  rw [if_pos s]
theorem ds_str {M : AH} {x : Str} (h : PyData.strOk x = true) : datS M (.str x) = some (.str x) := by
  have s : SeqAt.shaped (.str x) = true := by simp [SeqAt.shaped, PyData.canLay0, PyData.depth, h]
  show (if SeqAt.shaped (.str x) = true then some (PyData.str x) else none) = _
  rw [if_pos s]
theorem eq_non {M : AH} : opEq .non .non M = .ok (.bl true) M := by
  unfold opEq
  rw [ds_non]
  simp [PyData.eqv]
theorem eq_bl {M : AH} {b : Bool} : opEq (.bl b) (.bl b) M = .ok (.bl true) M := by
  unfold opEq
  rw [ds_bl]
  simp [PyData.eqv]
theorem eq_str {M : AH} {x : Str} (h : PyData.strOk x = true) : opEq (.str x) (.str x) M = .ok (.bl true) M := by
  unfold opEq
  rw [ds_str h]
  simp [PyData.eqv]
theorem sm_non {M : AH} {k : Nat} : Sm M (k + 1) .non .non := .sc (t := .non) (b := false) (fun _ _ => rfl) rfl rfl rfl rfl (fun M' _ => eq_non)
theorem sm_bl {M : AH} {k : Nat} {b : Bool} : Sm M (k + 1) (.bl b) (.bl b) := .sc (t := .bl) (b := true) (fun _ _ => rfl) rfl rfl rfl rfl (fun M' _ => eq_bl)
theorem sm_str {M : AH} {k : Nat} {x : Str} (h : PyData.strOk x = true) : Sm M (k + 1) (.str x) (.str x) := .sc (t := .str) (b := false) (fun _ _ => rfl) rfl rfl rfl rfl (fun M' _ => eq_str h)
section
variable {P : Nat} {M : AH}
theorem ok_newD {M : AH} {Q : AV → AH → Prop} (h : ∀ (i : Nat) (M' : AH), Grw M M' → M.length ≤ i → i < M'.length → M'[i]? = some (.dct []) → Q (.ref i) M') : OkR (newD M) Q :=
  okv (rfl : newD M = .ok (.ref M.length) (M ++ [.dct []])) (h _ _ Grw.app (Nat.le_refl _) (by simp) (by simp))
theorem ok_newDC {vs : AM.Loc} {M : AH} {Q : AV → AH → Prop} (h : ∀ (i : Nat) (M' : AH), Grw M M' → M.length ≤ i → i < M'.length → M'[i]? = some (.dct []) → Q (.ref i) M') : OkR ((fun (_ : AM.Loc) (M : AH) => newD M) vs M) Q := ok_newD h
theorem ok_neg {vs : AM.Loc} {M : AH} {i : Int} {Q : AV → AH → Prop} (h : Q (.int (-i)) M) : OkR (un1 opNeg (conC (.int i)) vs M) Q := h
theorem neY_dat {v : AV} {d : PyData} {a : Int} {M : AH} (h : datS M v = some d) (hb : neD fns v (.int a) M = false) (he : eqOwn fns ws [] v (.int a) M = none) : opNeY fns ws [] v (.int a) M = .ok (.bl (!PyData.eqv d (.int a))) M := by
  have e : datS M (.int a) = some (.int a) := by
    have s : SeqAt.shaped (.int a) = true := by simp [SeqAt.shaped, PyData.canLay0, PyData.depth]
    show (if SeqAt.shaped (.int a) = true then some (PyData.int a) else none) = _
    rw [if_pos s]
  unfold opNeY
  rw [hb]
  simp only [Bool.false_eq_true, if_false, opNeX, he, opNe, h, e]
theorem ds_int {x : Int} {M : AH} : datS M (.int x) = some (.int x) := by
  have s : SeqAt.shaped (.int x) = true := by simp [SeqAt.shaped, PyData.canLay0, PyData.depth]
  show (if SeqAt.shaped (.int x) = true then some (PyData.int x) else none) = _
  rw [if_pos s]
theorem ty_lst {i : Nat} {xs : List AV} (h : M[i]? = some (.lst xs)) : ∀ M', Grw M M' → tyA fns ws M' (.ref i) = some .lst := fun M' g => by simp only [tyA, g.get _ _ h]
theorem ty_dct {i : Nat} {xs : List (AV × AV)} (h : M[i]? = some (.dct xs)) : ∀ M', Grw M M' → tyA fns ws M' (.ref i) = some .dct := fun M' g => by simp only [tyA, g.get _ _ h]
theorem ty_draw : ∀ M', Grw M M' → tyA fns ws M' (.glo "_law_draw") = some .fn := fun M' _ => by
  have : ("_law_draw" : Str) ∈ fns := by decide +kernel
  simp only [tyA, if_pos this]
theorem isp_z {x : Int} (h : ¬ 1 ≤ x) : f_is_positive [.val (.int x)] M = .ok (.bl false) M := by
  rw [isp_int]
  simp [h]
theorem sm_dct {i k : Nat} (h : M[i]? = some (.dct [])) : Sm M (k + 3) (.ref i) (.ref i) := .dct h
end
theorem stream_ok {ns : List Int} (h : ns.length ≤ 63) : OkR (f_law_stream [.scr ns] []) fun r M' => r = .ref 1 ∧ Strm 1 0 0 M' := by
  refine ok_fn (ok_ret (ok_args (ok_cons ?_)))
  have e1 : listScr 0 (startL 1 [.scr ns]) [] = .ok (.ref 0) [.lst (ns.map .int)] := by
    show newL (ns.map .int) [] = _
    unfold newL
    rw [if_pos (by simp; unfold sizeLine; omega)]
    rfl
  refine okv e1 ?_
  and_intros
  refine okv (lst_ok (by simp)) ⟨rfl, ⟨by decide, 0, 0, 17, ns, rfl, rfl, by decide, by decide, by decide, by decide, by decide, h⟩⟩
end K01
end
end

section
set_option Elab.async false
set_option linter.all false
set_option autoImplicit false
set_option maxRecDepth 100000
set_option maxHeartbeats 4000000
/-! k01, the plain side: a turn, steps handed on. -/
namespace K01
open PySem AM L2 AP
local macro_rules | `(tactic| and_intros) => `(tactic| repeat (first | (with_reducible first | refine ok_seq ?_ | refine ok_ret ?_ | refine ok_set ?_ | refine ok_drop ?_ | refine ok_con ?_ | refine ok_nil ?_ | refine ok_cons ?_ | refine ok_args ?_ | refine ok_bin ?_ | refine ok_un ?_ | refine ok_tru ?_ | refine ok_notT ?_ | refine ok_cmp ?_ | refine ok_par ?_ | refine ok_for ?_ | refine ok_skip ?_ | refine ok_notC ?_ | refine ok_ifC ?_ | refine ok_call ?_) | ((with_reducible apply ok_var); exact rfl)))
theorem WebIs.setx {P : Nat} {rs : List Stp} {w j x : Nat} {o : AO} {M : AH} (h : WebIs P rs w j M) (h1 : x ≠ w) (h2 : x ≠ j) : WebIs P rs w j (M.set x o) :=
  ⟨by rw [set_ne (by omega)]; exact h.1, by rw [set_ne (by omega)]; exact h.2⟩
/-- what a turn has drawn -/
structure Trn (s n P L : Nat) (ss : List Stp) (M : AH) : Prop where
  gL : M[L]? = some (.lst (ss.map Stp.av))
  Ls : L ≠ s
  Ln : L ≠ n
  nd : ss.Nodup
  hl : ss.length ≤ 20
  p1 : 1 ≤ P
  p2 : P ≤ 6
  ho : ∀ st ∈ ss, StpOk P st
section
variable {s n c P L : Nat} {ss : List Stp} {M M' : AH}
theorem Trn.fr (h : Trn s n P L ss M) (f : Fr s n M M') : Trn s n P L ss M' := { h with gL := f.get _ _ h.Ls h.Ln h.gL }
theorem Trn.IL (h : Trn s n P L ss M) : Its s n (.ref L) (ss.map Stp.av) M := .inr ⟨L, rfl, h.Ls, h.Ln, h.gL⟩
theorem Trn.hb (h : Trn s n P L ss M) : ∀ st ∈ ss, stepB P st = true := fun st hs => (h.ho st hs).bb
/-- the steps, loosened one by one -/
theorem handed_ok {z1 z3 z4 z5 z6 z7 z8 : Option SV} (S : Strm s n c M) (hc : c + 1000 < 2 ^ 40) (T : Trn s n P L ss M) {Q : AV → AH → Prop}
    (k : ∀ (zs : List AV) (M' : AH), M'[M.length]? = some (.lst zs) → All2 (FLike (M.length + 1) s n M') zs (ss.map Stp.av) → Strm s n (c + 40) M' → Fr s n M M' → Q (.ref M.length) M') :
    OkR (lcC [4] (valI (varC 2)) (nameG 4) yesT (callC 2 (f_law_loose 30) (consA (varC 0) (consA (varC 4) nilA))) [some (.val (.ref s)), z1, some (.val (.ref L)), z3, z4, z5, z6, z7, z8] M) Q := by
  have I := T.IL
  have lts := Strm.lts S
  have ltn := Strm.ltn S
  refine ok_lc (I.val (c := varC 2) rfl fun it wk => ?_)
  rw [wk.items]
  refine ok_lcL (fun acc rest M2 => ∃ done todo : List Stp, ss = done ++ todo ∧ rest = todo.map Stp.av ∧ All2 (FLike (M.length + 1) s n M2) acc (done.map Stp.av) ∧ M2[M.length]? = some (.lst acc) ∧ Fr s n M M2 ∧ Strm s n (c + 2 * done.length) M2) (fun acc rest M2 ⟨_, _, _, _, _, _, fr, _⟩ => wk.ok _ (I.fr fr)) ?_ ?_ _ [] _ ⟨[], ss, rfl, rfl, .nil, by simp, Fr.app, S.app⟩
  · rintro acc x rest M2 ⟨done, todo, e, hr, ha, hM, fr, hS⟩
    cases todo with
    | nil => cases hr
    | cons st todo =>
      obtain ⟨rfl, rfl⟩ := List.cons.inj hr
      have hl2 := ha.length
      simp only [List.length_map] at hl2
      have hw2 : done.length + 1 ≤ ss.length := by rw [e]; simp
      have hl := T.hl
      refine ⟨_, rfl, ok_call (ok_cons (ok_var (a := .ref s) rfl (ok_cons (ok_var (a := st.av) rfl (ok_nil ⟨rfl, ?_⟩)))))⟩
      refine (loose_ok 30 (like_av (st := st)) dp_av sm_av hS (by rw [node_av]; omega)).imp ?_
      rintro y M3 ⟨hy, hS3, fr3⟩
      have ltM2 : M.length < M2.length := get_lt hM
      have hM3 := fr3.get _ _ (by omega) (by omega) hM
      refine ⟨by unfold sizeLine; omega, hM3, done ++ [st], todo, by rw [e]; simp, rfl, ?_, set_get hM3, (fr.trans fr3).fresh (Nat.le_refl _), ?_⟩
      · rw [List.map_append]
        exact All2.snoc (ha.imp fun p q z => (z.fr fr3).set (by omega)) ((hy.mono (by omega)).set (by omega))
      · rw [node_av] at hS3
        have : c + 2 * (done ++ [st]).length = c + 2 * done.length + 2 := by simp; omega
        rw [this]
        exact hS3.set (by omega) (by omega)
  · rintro acc M2 ⟨done, todo, e, hr, ha, hM, fr, hS⟩
    cases todo with
    | cons _ _ => cases hr
    | nil =>
      rw [List.append_nil] at e
      subst e
      have hl := T.hl
      exact k acc M2 hM ha (hS.mono (by omega)) fr
/-! ### steps as lists of lists, each its own -/
inductive Lsx (M : AH) : Nat → Nat → List AV → List Stp → Prop
  | nil {b u : Nat} : b ≤ u → Lsx M b u [] []
  | cons {b u k i : Nat} {st : Stp} {vs : List AV} {ts : List Stp} : b ≤ k → k < i → M[k]? = some (.lst [.int st.x, .int st.y]) → M[i]? = some (.lst [.int st.a, .int st.b, .ref k, .int st.t, .int st.c]) → Lsx M (i + 1) u vs ts → Lsx M b u (.ref i :: vs) (st :: ts)
theorem Lsx.le {b u : Nat} {vs : List AV} {ts : List Stp} (h : Lsx M b u vs ts) : b ≤ u := by
  induction h with
  | nil h => exact h
  | cons h1 h2 _ _ _ ih => omega
theorem Lsx.fr {b u : Nat} {vs : List AV} {ts : List Stp} (h : Lsx M b u vs ts) (f : ∀ i o, b ≤ i → i < u → M[i]? = some o → M'[i]? = some o) : Lsx M' b u vs ts := by
  induction h with
  | nil h => exact .nil h
  | cons h1 h2 h3 h4 h5 ih =>
    have := h5.le
    exact .cons h1 h2 (f _ _ h1 (by omega) h3) (f _ _ (by omega) (by omega) h4) (ih fun i o k1 k2 => f i o (by omega) k2)
theorem Lsx.up {b u u' : Nat} {vs : List AV} {ts : List Stp} (h : Lsx M b u vs ts) (hu : u ≤ u') : Lsx M b u' vs ts := by
  induction h with
  | nil h => exact .nil (by omega)
  | cons h1 h2 h3 h4 h5 ih => exact .cons h1 h2 h3 h4 (ih hu)
theorem Lsx.snoc {b u u' k i : Nat} {st : Stp} {vs : List AV} {ts : List Stp} (h : Lsx M b u vs ts) (h1 : u ≤ k) (h2 : k < i) (h3 : M[k]? = some (.lst [.int st.x, .int st.y])) (h4 : M[i]? = some (.lst [.int st.a, .int st.b, .ref k, .int st.t, .int st.c])) (h5 : i < u') : Lsx M b u' (vs ++ [.ref i]) (ts ++ [st]) := by
  induction h with
  | nil h => exact .cons (by omega) h2 h3 h4 (.nil (by omega))
  | cons g1 g2 g3 g4 g5 ih => exact .cons g1 g2 g3 g4 (ih h1)
theorem Lsx.len {b u : Nat} {vs : List AV} {ts : List Stp} (h : Lsx M b u vs ts) : vs.length = ts.length := by
  induction h with
  | nil h => rfl
  | cons h1 h2 h3 h4 h5 ih => simp [ih]
theorem Lsx.like {b u : Nat} {vs : List AV} {ts : List Stp} (h : Lsx M b u vs ts) (hs : s < b) (hn : n < b) : LikeL s n M vs (ts.map Stp.av) := by
  induction h with
  | nil h => exact .nil
  | cons h1 h2 h3 h4 h5 ih =>
    refine .cons (.seq (.inr ⟨_, rfl, by omega, by omega, h4⟩) (.cons (.int _) (.cons (.int _) (.cons (.seq (.inr ⟨_, rfl, by omega, by omega, h3⟩) (.cons (.int _) (.cons (.int _) .nil))) (.cons (.int _) (.cons (.int _) .nil)))))) (ih (by omega) (by omega))
/-- lists for tuples, made anew -/
theorem lists_ok {z0 z1 z3 z4 z5 z6 z7 z8 : Option SV} (T : Trn s n P L ss M) {Q : AV → AH → Prop}
    (k : ∀ (zs : List AV) (M' : AH), M'[M.length]? = some (.lst zs) → Lsx M' (M.length + 1) M'.length zs ss → Grw M M' → Q (.ref M.length) M') :
    OkR (lcC [4] (valI (varC 2)) (nameG 4) yesT (bin2 opAdd (bin2 opAdd (argsC listA (consA (sliceC (varC 4) noO (someO (conC (.int 2)))) nilA)) (argsC lstA (consA (argsC listA (consA (bin2 opIx (varC 4) (conC (.int 2))) nilA)) nilA))) (argsC listA (consA (sliceC (varC 4) (someO (conC (.int 3))) noO) nilA))) [z0, z1, some (.val (.ref L)), z3, z4, z5, z6, z7, z8] M) Q := by
  have I := T.IL
  refine ok_lc (I.val (c := varC 2) rfl fun it wk => ?_)
  rw [wk.items]
  refine ok_lcL (fun acc rest M2 => ∃ done todo : List Stp, ss = done ++ todo ∧ rest = todo.map Stp.av ∧ Lsx M2 (M.length + 1) M2.length acc done ∧ M2[M.length]? = some (.lst acc) ∧ Grw M M2) (fun acc rest M2 ⟨_, _, _, _, _, _, g⟩ => wk.ok _ (I.ext g)) ?_ ?_ _ [] _ ⟨[], ss, rfl, rfl, .nil (by simp), by simp, Grw.app⟩
  · rintro acc x rest M2 ⟨done, todo, e, hr, ha, hM, g⟩
    cases todo with
    | nil => cases hr
    | cons st todo =>
      obtain ⟨rfl, rfl⟩ := List.cons.inj hr
      have hl2 := ha.len
      have hw2 : done.length + 1 ≤ ss.length := by rw [e]; simp
      have hl := T.hl
      have ltM2 : M.length < M2.length := get_lt hM
      refine ⟨_, rfl, ?_⟩
      refine ok_bin (ok_bin (ok_args (ok_cons (ok_slice (ok_var (a := st.av) rfl (ok_no (ok_some (ok_con ⟨_, rfl, ?_⟩))))))))
      have e1 : opSl st.av none (some ((2 : Nat) : Int)) M2 = .ok (.tup [.int st.a, .int st.b]) M2 := by
        simp only [opSl, Stp.av, cut_to]
        rfl
      refine okv e1 (ok_nil ?_)
      refine okv (list_tup (by simp)) ?_
      have h1 : (M2 ++ [AO.lst [.int st.a, .int st.b]])[M2.length]? = some (.lst [.int st.a, .int st.b]) := by simp
      have g1 : Grw M2 (M2 ++ [AO.lst [.int st.a, .int st.b]]) := Grw.app
      have l1 : (M2 ++ [AO.lst [.int st.a, .int st.b]]).length = M2.length + 1 := by simp
      generalize M2 ++ [AO.lst [.int st.a, .int st.b]] = M3 at h1 g1 l1
      refine ok_args (ok_cons (ok_args (ok_cons (ok_bin (ok_var (a := st.av) rfl (ok_con ?_))))))
      have e2 : opIx st.av (.int 2) M3 = .ok (.tup [.int st.x, .int st.y]) M3 := rfl
      refine okv e2 (ok_nil (okv (list_tup (by simp)) (ok_nil ?_)))
      have h2 : (M3 ++ [AO.lst [.int st.x, .int st.y]])[M3.length]? = some (.lst [.int st.x, .int st.y]) := by simp
      have g2 : Grw M3 (M3 ++ [AO.lst [.int st.x, .int st.y]]) := Grw.app
      have l2 : (M3 ++ [AO.lst [.int st.x, .int st.y]]).length = M3.length + 1 := by simp
      generalize M3 ++ [AO.lst [.int st.x, .int st.y]] = M4 at h2 g2 l2
      refine okv (lst_ok (by simp)) ?_
      have h3 : (M4 ++ [AO.lst [.ref M3.length]])[M4.length]? = some (.lst [.ref M3.length]) := by simp
      have g3 : Grw M4 (M4 ++ [AO.lst [.ref M3.length]]) := Grw.app
      have l3 : (M4 ++ [AO.lst [.ref M3.length]]).length = M4.length + 1 := by simp
      generalize M4 ++ [AO.lst [.ref M3.length]] = M5 at h3 g3 l3
      refine okv (add_ok ((g2.trans g3).get _ _ h1) h3 (by simp)) ?_
      simp only [List.cons_append, List.nil_append]
      have h4 : (M5 ++ [AO.lst [.int st.a, .int st.b, .ref M3.length]])[M5.length]? = some (.lst [.int st.a, .int st.b, .ref M3.length]) := by simp
      have g4 : Grw M5 (M5 ++ [AO.lst [.int st.a, .int st.b, .ref M3.length]]) := Grw.app
      have l4 : (M5 ++ [AO.lst [.int st.a, .int st.b, .ref M3.length]]).length = M5.length + 1 := by simp
      generalize M5 ++ [AO.lst [.int st.a, .int st.b, .ref M3.length]] = M6 at h4 g4 l4
      refine ok_args (ok_cons (ok_slice (ok_var (a := st.av) rfl (ok_some (ok_con ⟨_, rfl, ok_no ?_⟩)))))
      have e5 : opSl st.av (some ((3 : Nat) : Int)) none M6 = .ok (.tup [.int st.t, .int st.c]) M6 := by
        simp only [opSl, Stp.av, cut_from]
        rfl
      refine okv e5 (ok_nil ?_)
      refine okv (list_tup (by simp)) ?_
      have h6 : (M6 ++ [AO.lst [.int st.t, .int st.c]])[M6.length]? = some (.lst [.int st.t, .int st.c]) := by simp
      have g6 : Grw M6 (M6 ++ [AO.lst [.int st.t, .int st.c]]) := Grw.app
      have l6 : (M6 ++ [AO.lst [.int st.t, .int st.c]]).length = M6.length + 1 := by simp
      generalize M6 ++ [AO.lst [.int st.t, .int st.c]] = M7 at h6 g6 l6
      refine okv (add_ok (g6.get _ _ h4) h6 (by simp)) ?_
      simp only [List.cons_append, List.nil_append]
      have h7 : (M7 ++ [AO.lst [.int st.a, .int st.b, .ref M3.length, .int st.t, .int st.c]])[M7.length]? = some (.lst [.int st.a, .int st.b, .ref M3.length, .int st.t, .int st.c]) := by simp
      have g7 : Grw M7 (M7 ++ [AO.lst [.int st.a, .int st.b, .ref M3.length, .int st.t, .int st.c]]) := Grw.app
      have l7 : (M7 ++ [AO.lst [.int st.a, .int st.b, .ref M3.length, .int st.t, .int st.c]]).length = M7.length + 1 := by simp
      generalize M7 ++ [AO.lst [.int st.a, .int st.b, .ref M3.length, .int st.t, .int st.c]] = M8 at h7 g7 l7
      have g38 : Grw M4 M8 := (((g3.trans g4).trans g6).trans g7)
      have gg : Grw M2 M8 := (g1.trans g2).trans g38
      have hM8 := gg.get _ _ hM
      refine ⟨by unfold sizeLine; omega, hM8, done ++ [st], todo, by rw [e]; simp, rfl, ?_, set_get hM8, (g.trans gg).fresh (Nat.le_refl _)⟩
      have h2' := g38.get _ _ h2
      refine Lsx.snoc (u := M2.length) (k := M3.length) (ha.fr fun i o k1 k2 hi => ?_) (by omega) (by omega) ?_ ?_ (by simp; omega)
      · rw [set_ne (by omega)]; exact gg.get _ _ hi
      · rw [set_ne (by omega)]; exact h2'
      · rw [set_ne (by omega)]; exact h7
  · rintro acc M2 ⟨done, todo, e, hr, ha, hM, g⟩
    cases todo with
    | cons _ _ => cases hr
    | nil =>
      rw [List.append_nil] at e
      subst e
      exact k acc M2 hM ha g
end
end K01
end

section
set_option Elab.async false
set_option linter.all false
set_option autoImplicit false
set_option maxRecDepth 100000
set_option maxHeartbeats 4000000
/-! k01, the plain side: webs, compared; made. -/
namespace K01
open PySem AM L2 AP
local macro_rules | `(tactic| and_intros) => `(tactic| repeat (first | (with_reducible first | refine ok_seq ?_ | refine ok_ret ?_ | refine ok_set ?_ | refine ok_drop ?_ | refine ok_con ?_ | refine ok_nil ?_ | refine ok_cons ?_ | refine ok_args ?_ | refine ok_bin ?_ | refine ok_un ?_ | refine ok_tru ?_ | refine ok_notT ?_ | refine ok_cmp ?_ | refine ok_par ?_ | refine ok_for ?_ | refine ok_skip ?_ | refine ok_notC ?_ | refine ok_ifC ?_ | refine ok_call ?_) | ((with_reducible apply ok_var); exact rfl)))
/-! ### webs, compared -/
section
variable {s n c P P' L w w' j j' : Nat} {ss rs : List Stp} {M M' : AH}
theorem web_eq_no {v : AV} {t : AT} (ht : tyA fns ws M v = some t) (hn : isA2 fns ws [v, .glo "Web"] M = .ok (.bl false) M) : f_Web_eq [.val (.ref w), .val v] M = .ok (.bl false) M := by
  have e1 : OkR (f_Web_eq [.val (.ref w), .val v] M) fun r M' => r = .bl false ∧ M' = M := by
    refine ok_fn (ok_seq (if_t ?_))
    refine ok_notT (ok_tru (ok_args (ok_cons (ok_var (a := v) rfl (ok_cons (ok_con (ok_nil (okv hn (okv (a := false) (M := M) rfl ⟨rfl, ?_⟩)))))))))
    exact ok_ret (ok_con ⟨rfl, rfl⟩)
  obtain ⟨r, M', e, rfl, rfl⟩ := e1.eq
  exact e
def esW : List (Str × (List SV → AH → R AV)) := [("Web", f_Web_eq)]
/-- made == v and made != v -/
theorem eqW {v : AV} {t : AT} {b : Bool} (h : WebIs P rs w j M) (ht : tyA fns ws M v = some t) (e : f_Web_eq [.val (.ref w), .val v] M = .ok (.bl b) M) : opEqX fns ws esW (.ref w) v M = .ok (.bl b) M ∧ opNeY fns ws esW (.ref w) v M = .ok (.bl (!b)) M := by
  have k : insOf M w = some ("Web" : Str) := by simp only [insOf, h.1]
  have l : esW.lookup ("Web" : Str) = some f_Web_eq := rfl
  have m : ("Web" : Str) ∈ ws := by unfold ws; simp
  have o : eqOwn fns ws esW (.ref w) v M = some (.ok b M) := by
    unfold eqOwn
    simp only [k, l, ht, e, if_pos m]
  have nd : neD fns (.ref w) v M = false := by
    cases v <;> simp [neD, h.1]
  constructor
  · unfold opEqX
    rw [o]
    rfl
  · unfold opNeY
    rw [nd]
    unfold opNeX
    rw [o]
    rfl
theorem make_webK {a : AV} {zs : List AV} (I : Its s n a zs M) (L : stps s n M zs ss) (nd : ss.Nodup) (hl : ss.length < 1000000) (hp : 1 ≤ P) (ho : ∀ st ∈ ss, stepB P st = true) {Q : AV → AH → Prop}
    (k : ∀ (j : Nat) (M' : AH), Grw M M' → WebIs P (srt ss) M.length j M' → M.length < j → Q (.ref M.length) M') : OkR (makeKA "Web" 3 f_Web_init 2 [0, 2, 1] [a, .int P] M) Q := by
  have h := init_okS (p := (P : Int)) I L nd hl (by omega) ho
  obtain ⟨r, M', e, rfl, g, j, W, lt⟩ := h.eq
  exact okv (makeKA_ok (bs := [a, .int P]) (xs := [.ref M.length, .int P, a]) rfl rfl rfl e) (k j M' g W lt)
end
end K01
end

section
set_option Elab.async false
set_option linter.all false
set_option autoImplicit false
set_option maxRecDepth 100000
set_option maxHeartbeats 4000000
/-! k01, the plain side: what was handed on is changed. -/
namespace K01
open PySem AM L2 AP
local macro_rules | `(tactic| and_intros) => `(tactic| repeat (first | (with_reducible first | refine ok_seq ?_ | refine ok_ret ?_ | refine ok_set ?_ | refine ok_drop ?_ | refine ok_con ?_ | refine ok_nil ?_ | refine ok_cons ?_ | refine ok_args ?_ | refine ok_bin ?_ | refine ok_un ?_ | refine ok_tru ?_ | refine ok_notT ?_ | refine ok_cmp ?_ | refine ok_par ?_ | refine ok_for ?_ | refine ok_skip ?_ | refine ok_notC ?_ | refine ok_ifC ?_ | refine ok_call ?_) | ((with_reducible apply ok_var); exact rfl)))
section
variable {s n c P L : Nat} {ss : List Stp} {M M' : AH}
/-- what was handed on is changed -/
theorem mut_ok {X b u : Nat} {zs : List AV} {z0 z1 z2 z3 z4 z5 z6 z7 : Option SV} {N : AM.Loc → AH → Prop} {T : AV → AH → Prop} (hX : M[X]? = some (.lst zs)) (hXb : X < b) (h : Lsx M b u zs ss)
    (k : ∀ (q4 : Option SV) (M' : AH), FrX (fun i => b ≤ i ∧ i < u) M M' → N [z0, z1, z2, z3, q4, z5, z6, z7, some (.val (.ref X))] M') :
    OkS (forC (valI (varC 8)) (nameG 4)
  (seqC (dropC (methK (onT "list" mAppend) (bin2 opIx (varC 4) (conC (.int 2))) (consA (conC (.int 9)) nilA)))
  (dropC (methK (onT "list" mClear) (varC 4) nilA))) [z0, z1, z2, z3, z4, z5, z6, z7, some (.val (.ref X))] M) N T := by
  have I : Its (X + 1) (X + 1) (.ref X) zs M := .inr ⟨X, rfl, by omega, by omega, hX⟩
  refine ok_for (I.val (c := varC 8) rfl fun it wk => ?_)
  rw [wk.items]
  refine OkS.imp (ok_loop (T := T) (N := fun vs' M' => ∃ q4 : Option SV, FrX (fun i => b ≤ i ∧ i < u) M M' ∧ vs' = [z0, z1, z2, z3, q4, z5, z6, z7, some (.val (.ref X))]) (fun rest vs' M' => ∃ (b' : Nat) (ts : List Stp) (q4 : Option SV), b ≤ b' ∧ Lsx M' b' u rest ts ∧ FrX (fun i => b ≤ i ∧ i < u) M M' ∧ vs' = [z0, z1, z2, z3, q4, z5, z6, z7, some (.val (.ref X))]) (fun rest vs' M' ⟨_, _, _, _, _, f, _⟩ => wk.ok _ (.inr ⟨X, rfl, by omega, by omega, f.get _ _ (by omega) hX⟩)) ?step (fun vs' M' ⟨_, _, q4, _, _, f, e⟩ => ⟨q4, f, e⟩) _ _ _ ⟨b, ss, z4, Nat.le_refl _, h, FrX.refl, rfl⟩) (fun vs' M' ⟨q4, f, e⟩ => by rw [e]; exact k q4 M' f) (fun _ _ z => z)
  case step =>
    rintro x rest vs' M' ⟨b', ts, q4, hb, hl, f, rfl⟩
    cases hl with
    | @cons _ _ kk i st _ ts' h1 h2 h3 h4 h5 =>
      have hiu := h5.le
      refine ok_turn (ok_seq (ok_drop (ok_meth (ok_bin (ok_var (a := .ref i) rfl (ok_con (okv (ix_at h4 (i := 2) (x := .ref kk) rfl) ⟨_, kind_lst h3, ?_⟩)))))))
      and_intros
      refine okv (append_ok h3 (by simp; unfold sizeLine; omega)) ?_
      have h4' : (M'.set kk (.lst ([.int st.x, .int st.y] ++ [.int 9])))[i]? = some (.lst [.int st.a, .int st.b, .ref kk, .int st.t, .int st.c]) := by rw [set_ne (by omega)]; exact h4
      refine ok_drop (ok_meth (ok_var (a := .ref i) rfl ⟨_, kind_lst h4', ?_⟩))
      and_intros
      refine okv (clear_ok h4') ⟨i + 1, ts', _, by omega, h5.fr fun x o k1 k2 e => ?_, (f.trans (frX_set ⟨by omega, by omega⟩)).trans (frX_set ⟨by omega, by omega⟩), rfl⟩
      rw [set_ne (by omega), set_ne (by omega)]
      exact e
theorem Strm.frX' {X : Nat → Prop} (S : Strm s n c M) (f : FrX X M M') (hs : ¬ X s) (hn : ¬ X n) : Strm s n c M' := by
  obtain ⟨h0, cur, cnt, st, ns, h1, h2, r⟩ := S
  exact ⟨h0, cur, cnt, st, ns, f.get _ _ hs h1, f.get _ _ hn h2, r⟩
theorem WebIs.frX {X : Nat → Prop} {rs : List Stp} {w j : Nat} (h : WebIs P rs w j M) (f : FrX X M M') (h1 : ¬ X w) (h2 : ¬ X j) : WebIs P rs w j M' := ⟨f.get _ _ h1 h.1, f.get _ _ h2 h.2⟩
end
section
variable {s n c P L : Nat} {ss : List Stp} {M M' : AH}
theorem made_right_ok (S : Strm s n c M) (hc : c + 1000 < 2 ^ 40) (T : Trn s n P L ss M) :
    OkR (f_law_made_right [.val (.ref s), .val (.int P), .val (.ref L)] M) fun v M' => v = .bl true ∧ Strm s n (c + 200) M' ∧ Fr s n M M' := by
  have hmx : ∀ {c : Nat} {a : AV} {xs : List AV} {M : AH}, Strm s n c M → c + xs.length < 2 ^ 40 → Its s n a xs M → xs.length < sizeLine →
    OkR (f_law_mixed [.val (.ref s), .val a] M) fun v M' => ∃ f ys, v = .ref f ∧ M.length ≤ f ∧ M'[f]? = some (.lst ys) ∧ ys.Perm xs ∧ Strm s n (c + xs.length) M' ∧ Fr s n M M' := fun h1 h2 h3 h4 => mixed_ok h1 h2 h3 h4
  have hpk : ∀ {c : Nat} {a : AV} {xs : List AV} {M : AH}, Strm s n c M → c < 2 ^ 40 → Its s n a xs M → xs ≠ [] → xs.length ≤ sizeLine →
    OkR (f_law_pick [.val (.ref s), .val a] M) fun v M' => v ∈ xs ∧ Strm s n (c + 1) M' ∧ Fr s n M M' := fun h1 h2 h3 h4 h5 => pick_ok h1 h2 h3 h4 h5
  unfold f_law_made_right c_law_made_right
  generalize f_law_mixed = MX at hmx ⊢
  generalize f_law_pick = PK at hpk ⊢
  have hl := T.hl
  have hlt : ss.length < 1000000 := by omega
  have hP1 : 1 ≤ P := T.p1
  have lts := Strm.lts S
  have ltn := Strm.ltn S
  refine ok_fn (ok_seq (ok_set ?_))
  refine handed_ok S hc T ?_
  intro zs M1 gz az S1 F1
  have T1 := T.fr F1
  have ld := get_lt gz
  generalize hZ : M.length = Z at gz az ld
  -- the web
  refine ok_seq (ok_set (ok_make (ok_cons (ok_var (a := .int P) rfl (ok_cons (ok_call (ok_cons (ok_var (a := .ref s) rfl (ok_cons (ok_args (ok_cons (ok_var (a := .ref Z) rfl (ok_cons (ok_args (ok_cons (ok_var (a := .ref Z) rfl (ok_nil ?_)))))))))))))))))
  have t1 : tupleA [.ref Z] M1 = .ok (.tup zs) M1 := by
    unfold tupleA seqA
    simp only [gz]
  refine okv t1 (ok_nil (ok_new (by simp) fun e M2 g2 lo2 lt2 ge => ok_nil ⟨rfl, ?_⟩))
  have S2 := S1.ext g2
  refine (hpk (a := .ref e) (xs := [.ref Z, .tup zs]) S2 (by omega) (.inr ⟨e, rfl, by omega, by omega, ge⟩) (by simp) (by simp; unfold sizeLine; decide)).imp ?_
  rintro v M3 ⟨hv, S3, f3⟩
  have gz3 := f3.get _ _ (by omega) (by omega) (g2.get _ _ gz)
  have F3 : Fr s n M M3 := (F1.trans g2.fr).trans f3
  have I3 : Its s n v zs M3 := by
    simp only [List.mem_cons, List.not_mem_nil, or_false] at hv
    rcases hv with rfl | rfl
    · exact .inr ⟨Z, rfl, by omega, by omega, gz3⟩
    · exact .inl rfl
  have lk : stps s n M3 zs ss := likeL_of (az.imp fun p q z => ((z.fr g2.fr).fr f3).like)
  refine ok_nil ?_
  refine make_web I3 lk T.nd hlt hP1 T.hb ?_
  intro j M4 g4 W4 lj4
  have gz4 := g4.get _ _ gz3
  have S4 := S3.ext g4
  have F4 : Fr s n M M4 := F3.trans g4.fr
  have zl : zs.length = ss.length := by have := az.length; simpa using this
  have lZ3 : Z < M3.length := get_lt gz3
  generalize M3.length = w at W4 lj4 lZ3
  -- handed.append(None)
  refine ok_seq (ok_drop (ok_meth ?_))
  refine ok_var (a := .ref Z) rfl ⟨_, kind_lst gz4, ?_⟩
  and_intros
  refine okv (append_ok gz4 (by unfold sizeLine; omega)) ?_
  have W5 : WebIs P (srt ss) w j (M4.set Z (.lst (zs ++ [.non]))) := W4.setx (by omega) (by omega)
  have S5 : Strm s n (c + 41) (M4.set Z (.lst (zs ++ [.non]))) := S4.set (by omega) (by omega)
  have F5 : Fr s n M (M4.set Z (.lst (zs ++ [.non]))) := F4.fresh (by omega)
  have lw5 : w < (M4.set Z (.lst (zs ++ [.non]))).length := get_lt W5.1
  generalize M4.set Z (.lst (zs ++ [.non])) = M5 at W5 S5 F5 lw5
  have T5 := T.fr F5
  -- due
  refine ok_seq (ok_set ?_)
  and_intros
  refine okv (sorted_okS (ss := ss) (by simp [lstOf, T5.gL]) hlt) ?_
  and_intros
  have gk : (M5 ++ [AO.lst ((srt ss).map Stp.av)])[M5.length]? = some (.lst ((srt ss).map Stp.av)) := by simp
  have g6 : Grw M5 (M5 ++ [AO.lst ((srt ss).map Stp.av)]) := Grw.app
  generalize M5 ++ [AO.lst ((srt ss).map Stp.av)] = M6 at gk g6
  refine ok_new (by simp) fun D M7 g7 loD _ gD => ?_
  have g57 := g6.trans g7
  have gk7 := g7.get _ _ gk
  have sl : (srt ss).length = ss.length := srt_len ss
  -- places and steps, as told
  have told : ∀ {vs : AM.Loc} {M8 : AH} {Q : AV → AH → Prop}, vs[5]? = some (some (.val (.ref w))) → WebIs P (srt ss) w j M8 → M8[D]? = some (.lst [.int P, .ref M5.length]) → M8[M5.length]? = some (.lst ((srt ss).map Stp.av)) →
      (∀ E M9, Grw M8 M9 → Sm M9 30 (.ref E) (.ref D) → Q (.ref E) M9) →
      OkR (argsC lstA (consA (methO "Web" "places" 1 f_Web_places (varC 5) nilA) (consA (methO "Web" "steps" 1 f_Web_steps (varC 5) nilA) nilA)) vs M8) Q := by
    intro vs M8 Q hv W8 h8 h9 k
    refine ok_args (ok_cons (m_wplaces (P := P) (ok_var hv ⟨w, j, _, rfl, W8, ?_⟩)))
    refine ok_cons (m_wsteps (P := P) (ok_var hv ⟨w, j, _, rfl, W8, by omega, ?_⟩))
    intro d M9 g9 k9 l9
    refine ok_nil (ok_new (by simp) fun E M10 g10 _ _ gE => k E M10 (g9.trans g10) ?_)
    exact .lst (by simp) gE ((g9.trans g10).get _ _ h8) (.cons sm_int (.cons (.lst (by simp; omega) (g10.get _ _ k9) ((g9.trans g10).get _ _ h9) (smL_avs _)) .nil))
  refine ok_seq (if_f ?_)
  refine ok_notT (ok_tru (ok_call (ok_cons (told rfl (W5.ext g57) gD gk7 ?_))))
  intro E M8 g8 sm8
  refine ok_cons (ok_var (a := .ref D) rfl (ok_nil ⟨rfl, (same_ok 30 sm8 M8 Grw.refl).imp ?_⟩))
  rintro r M9 ⟨rfl, g9⟩
  refine okv (a := true) (M := M9) rfl ⟨rfl, ?_⟩
  have g79 := g8.trans g9
  have g59 := g57.trans g79
  refine ok_skip (ok_seq (ok_drop (ok_meth ?_)))
  -- what is told is new
  refine m_wsteps (P := P) (ok_var (a := .ref w) rfl ⟨w, j, _, rfl, W5.ext g59, by omega, ?_⟩)
  intro d M10 g10 k10 l10
  refine ⟨_, kind_lst k10, ?_⟩
  and_intros
  refine okv (append_ok k10 (by simp; unfold sizeLine; omega)) ?_
  have g11 : Grw M9 (M10.set d (.lst ((srt ss).map Stp.av ++ [.str "late"]))) := g10.fresh l10
  generalize M10.set d (.lst ((srt ss).map Stp.av ++ [.str "late"])) = M11 at g11
  have g511 := g59.trans g11
  have S11 := S5.ext g511
  have T11 := T5.fr g511.fr
  have W11 := W5.ext g511
  -- the twin
  refine ok_seq (ok_set (ok_makeK (ok_cons (ok_call (ok_cons (ok_var (a := .ref s) rfl (ok_cons (ok_var (a := .ref L) rfl (ok_nil ⟨rfl, ?_⟩)))))))))
  refine (hmx (a := .ref L) (xs := ss.map Stp.av) S11 (by simp; omega) T11.IL (by simp; unfold sizeLine; omega)).imp ?_
  rintro v2 M12 ⟨g, ys, rfl, hg, gg, pm, S12, f12⟩
  obtain ⟨us, rfl, pus⟩ := perm_map pm ss rfl
  refine ok_cons (ok_var (a := .int P) rfl (ok_nil ?_))
  have l11 := Strm.lts S11
  have n11 := Strm.ltn S11
  have lw11 : w < M11.length := get_lt W11.1
  have lj11 : j < M11.length := get_lt W11.2
  have lF := F5.len
  have lF2 := g511.len
  have lF3 := f12.len
  refine make_webK (s := s) (n := n) (.inr ⟨g, rfl, by omega, by omega, gg⟩) (like_avs _) (pus.nodup_iff.mpr T.nd) (by rw [pus.length_eq]; exact hlt) hP1 (fun st h => T.hb st (pus.mem_iff.mp h)) ?_
  intro j2 M13 g13 W13 lj2
  rw [srt_eq pus] at W13
  generalize M12.length = w2 at W13 lj2
  have f1113 : Fr s n M11 M13 := f12.trans g13.fr
  have hws : w ≠ s := by omega
  have hwn : w ≠ n := by omega
  have hjs : j ≠ s := by omega
  have hjn : j ≠ n := by omega
  have W13' : WebIs P (srt ss) w j M13 := W11.fr f1113 hws hwn hjs hjn
  have g711 := g79.trans g11
  have lD := g6.len
  have lk5 : M5.length < M6.length := get_lt gk
  have gD13 := f1113.get _ _ (by omega) (by omega) (g711.get _ _ gD)
  have gk13 := f1113.get _ _ (by omega) (by omega) (g711.get _ _ gk7)
  have S13 := S12.ext g13
  refine ok_seq (if_f (orT_f ?_))
  refine ok_notT (ok_tru (ok_call (ok_cons (told rfl W13' gD13 gk13 ?_))))
  intro E2 M14 g14 sm14
  refine ok_cons (ok_var (a := .ref D) rfl (ok_nil ⟨rfl, (same_ok 30 sm14 M14 Grw.refl).imp ?_⟩))
  rintro r M15 ⟨rfl, g15⟩
  refine okv (a := true) (M := M15) rfl ⟨rfl, ?_⟩
  have g1315 := g14.trans g15
  refine ok_notT (ok_cmp (ok_var (a := .ref w) rfl (ok_var (a := .ref w2) rfl ?_)))
  refine okv (opEqX_web rfl (W13'.ext g1315) (W13.ext g1315)) ⟨_, rfl, by simp, ?_⟩
  have T15 := (T11.fr f1113).fr g1315.fr
  have S15 := S13.ext g1315
  have W15 := W13'.ext g1315
  have gD15 := g1315.get _ _ gD13
  have gk15 := g1315.get _ _ gk13
  have F15 : Fr s n M M15 := ((F5.trans g511.fr).trans f1113).trans g1315.fr
  -- lists
  refine ok_skip (ok_seq (ok_set ?_))
  refine lists_ok T15 ?_
  intro qs M16 gq lx g16
  refine ok_seq (ok_set (ok_make (ok_cons (ok_var (a := .int P) rfl (ok_cons (ok_var (a := .ref M15.length) rfl (ok_nil ?_)))))))
  have l15s := Strm.lts S15
  have l15n := Strm.ltn S15
  have lq := get_lt gq
  refine make_web (s := s) (n := n) (.inr ⟨_, rfl, by omega, by omega, gq⟩) (lx.like (by omega) (by omega)) T.nd hlt hP1 T.hb ?_
  intro j3 M17 g17 W17 lj3
  have gq17 := g17.get _ _ gq
  have lx17 := lx.fr (M' := M17) fun i o _ _ h => g17.get _ _ h
  have lw15 := get_lt W15.1
  have lj15 := get_lt W15.2
  have lD15 := get_lt gD15
  have lk15 := get_lt gk15
  generalize hu : M16.length = u at lx17 W17 lj3
  refine ok_seq (mut_ok gq17 (by omega) lx17 ?_)
  intro q4 M18 f18
  have W18 : WebIs P (srt ss) u j3 M18 := W17.frX f18 (by omega) (by omega)
  have W18' : WebIs P (srt ss) w j M18 := (W15.ext (g16.trans g17)).frX f18 (by omega) (by omega)
  have gD18 := f18.get _ _ (show ¬ (M15.length + 1 ≤ D ∧ D < u) by omega) ((g16.trans g17).get _ _ gD15)
  have gk18 := f18.get _ _ (show ¬ (M15.length + 1 ≤ M5.length ∧ M5.length < u) by omega) ((g16.trans g17).get _ _ gk15)
  have S18 : Strm s n (c + 100) M18 := Strm.frX' ((S15.ext (g16.trans g17)).mono (by simp; omega)) f18 (by omega) (by omega)
  have F18 : Fr s n M M18 := ⟨Nat.le_trans F15.len (Nat.le_trans (g16.trans g17).len f18.len), fun i o h1 h2 h => f18.get _ _ (fun z => by have := get_lt h; have := F15.len; omega) ((g16.trans g17).get _ _ (F15.get _ _ h1 h2 h))⟩
  -- the same again
  refine ok_ret (ok_andC (ok_call (ok_cons (m_wsteps (P := P) (ok_var (a := .ref u) rfl ⟨u, j3, _, rfl, W18, by omega, ?_⟩)))))
  intro d M19 g19 k19 l19
  refine ok_cons (ok_bin (ok_var (a := .ref D) rfl (ok_con (okv (ix_at (g19.get _ _ gD18) (i := 1) (x := .ref M5.length) rfl) (ok_nil ⟨rfl, ?_⟩)))))
  refine (same_ok 30 (.lst (by simp; omega) k19 (g19.get _ _ gk18) (smL_avs _)) M19 Grw.refl).imp ?_
  rintro r M20 ⟨rfl, g20⟩
  refine ⟨_, rfl, ?_⟩
  rw [if_pos rfl]
  have gg := g19.trans g20
  refine ok_bin (ok_var (a := .ref u) rfl (ok_var (a := .ref w) rfl ?_))
  refine okv (opEqX_web rfl (W18.ext gg) (W18'.ext gg)) ⟨by simp, (S18.ext gg).mono (by omega), F18.trans gg.fr⟩
end
end K01
end

section
set_option Elab.async false
set_option linter.all false
set_option autoImplicit false
set_option maxRecDepth 100000
set_option maxHeartbeats 4000000
/-! k01, the plain side: what is unlike. -/
namespace K01
open PySem AM L2 AP
local macro_rules | `(tactic| and_intros) => `(tactic| repeat (first | (with_reducible first | refine ok_seq ?_ | refine ok_ret ?_ | refine ok_set ?_ | refine ok_drop ?_ | refine ok_con ?_ | refine ok_nil ?_ | refine ok_cons ?_ | refine ok_args ?_ | refine ok_bin ?_ | refine ok_un ?_ | refine ok_tru ?_ | refine ok_notT ?_ | refine ok_cmp ?_ | refine ok_par ?_ | refine ok_for ?_ | refine ok_skip ?_ | refine ok_notC ?_ | refine ok_ifC ?_ | refine ok_call ?_) | ((with_reducible apply ok_var); exact rfl)))
/-! ### what is unlike a web -/
def XO (O s n : Nat) : Nat → Prop := fun i => i = O ∨ i = s ∨ i = n
section
variable {s n c P L O w j b : Nat} {ss : List Stp} {M M' M0 : AH}
theorem frx_of (f : Fr s n M M') : FrX (XO O s n) M M' := ⟨f.len, fun i o h => f.get i o (fun e => h (.inr (.inl e))) fun e => h (.inr (.inr e))⟩
/-- v is not the web at w, whatever is written at O, s, n -/
def Oth (O s n w : Nat) (M : AH) (v : AV) : Prop := ∀ M', FrX (XO O s n) M M' → opEqX fns ws esW (.ref w) v M' = .ok (.bl false) M' ∧ opNeY fns ws esW (.ref w) v M' = .ok (.bl true) M'
theorem Oth.fr {v : AV} (h : Oth O s n w M v) (f : FrX (XO O s n) M M') : Oth O s n w M' v := fun M2 g => h M2 (f.trans g)
theorem oth_web {P' w' j' : Nat} {rs rs' : List Stp} (h : WebIs P rs w j M) (h' : WebIs P' rs' w' j' M) (h1 : ¬ XO O s n w) (h2 : ¬ XO O s n j) (h3 : ¬ XO O s n w') (h4 : ¬ XO O s n j') (ne : P ≠ P' ∨ rs ≠ rs') : Oth O s n w M (.ref w') := fun M' f => by
  have a := h.frX f h1 h2
  have b := h'.frX f h3 h4
  have e := web_eq_ok a b
  have z : (decide (P = P') && decide (rs = rs')) = false := by
    rcases ne with q | q
    · rw [decide_eq_false q]; rfl
    · rw [decide_eq_false q, Bool.and_false]
  rw [z] at e
  exact eqW a (ty_web b) e
theorem oth_no {v : AV} {t : AT} {rs : List Stp} (h : WebIs P rs w j M) (h1 : ¬ XO O s n w) (h2 : ¬ XO O s n j) (ht : ∀ M', FrX (XO O s n) M M' → tyA fns ws M' v = some t) (hn : ∀ M', FrX (XO O s n) M M' → isA2 fns ws [v, .glo "Web"] M' = .ok (.bl false) M') : Oth O s n w M v := fun M' f => by
  exact eqW (h.frX f h1 h2) (ht M' f) (web_eq_no (ht M' f) (hn M' f))
theorem srt_ne {rs ts : List Stp} {x : Stp} (h1 : x ∈ rs) (h2 : x ∉ ts) : srt rs ≠ srt ts := fun e => by
  have : x ∈ srt rs := (srt_perm rs).mem_iff.mpr h1
  rw [e] at this
  exact h2 ((srt_perm ts).mem_iff.mp this)
/-- the state of unlike_right, of b others -/
structure Uk (s n P L : Nat) (ss : List Stp) (O w j b : Nat) (M0 M : AH) : Prop where
  T : Trn s n P L ss M
  h : WebIs P (srt ss) w j M
  F : Fr s n M0 M
  l0 : M0.length ≤ O
  ls : s < M0.length
  ln : n < M0.length
  lL : L < M0.length
  wX : ¬ XO O s n w
  jX : ¬ XO O s n j
  hO : ∃ xs, M[O]? = some (.lst xs) ∧ xs.length ≤ b ∧ ∀ v ∈ xs, Oth O s n w M v
theorem Uk.ltO (U : Uk s n P L ss O w j b M0 M) : O < M.length := by
  obtain ⟨xs, h1, _⟩ := U.hO
  exact get_lt h1
theorem Uk.lt0 (U : Uk s n P L ss O w j b M0 M) : M0.length ≤ M.length := U.F.len
theorem Uk.fr (U : Uk s n P L ss O w j b M0 M) (f : Fr s n M M') : Uk s n P L ss O w j b M0 M' := by
  obtain ⟨xs, h1, h2, h3⟩ := U.hO
  have a := U.ls
  have a2 := U.ln
  have a3 := U.l0
  exact { U with T := U.T.fr f, h := U.h.frX (frx_of f) U.wX U.jX, F := U.F.trans f, hO := ⟨xs, f.get _ _ (by omega) (by omega) h1, h2, fun v hv => (h3 v hv).fr (frx_of f)⟩ }
theorem Uk.put {xs ys : List AV} (U : Uk s n P L ss O w j b M0 M) (h1 : M[O]? = some (.lst xs)) (h2 : xs.length ≤ b) (h3 : ∀ v ∈ xs, Oth O s n w M v) (hy : ∀ v ∈ ys, Oth O s n w M v) : Uk s n P L ss O w j (b + ys.length) M0 (M.set O (.lst (xs ++ ys))) := by
  have hL := U.lL
  have h0 := U.l0
  have hT := U.T
  have f : FrX (XO O s n) M (M.set O (.lst (xs ++ ys))) := frX_set (.inl rfl)
  refine { U with T := { hT with gL := by rw [set_ne (by omega)]; exact hT.gL }, h := U.h.frX f U.wX U.jX, F := U.F.fresh U.l0, hO := ⟨xs ++ ys, set_get h1, by simp; omega, fun v hv => ?_⟩ }
  rcases List.mem_append.mp hv with hv | hv
  · exact (h3 v hv).fr f
  · exact (hy v hv).fr f
theorem Uk.add1 {v : AV} (U : Uk s n P L ss O w j b M0 M) (hb : b ≤ 100) (hy : Oth O s n w M v) : ∃ ob, mAppend (.ref O) [v] M = .ok .non (M.set O ob) ∧ Uk s n P L ss O w j (b + 1) M0 (M.set O ob) := by
  obtain ⟨xs, h1, h2, h3⟩ := U.hO
  have U' := U.put (ys := [v]) h1 h2 h3 (fun u hu => by rw [List.mem_singleton.mp hu]; exact hy)
  exact ⟨_, append_ok h1 (by unfold sizeLine; omega), U'⟩
theorem Uk.addL {o : Nat} {ys : List AV} (U : Uk s n P L ss O w j b M0 M) (hb : b ≤ 100) (gE : M[o]? = some (.lst ys)) (hl : ys.length ≤ 10) (hy : ∀ v ∈ ys, Oth O s n w M v) : ∃ ob, mExtend (.ref O) [.ref o] M = .ok .non (M.set O ob) ∧ Uk s n P L ss O w j (b + ys.length) M0 (M.set O ob) := by
  obtain ⟨xs, h1, h2, h3⟩ := U.hO
  refine ⟨_, ?_, U.put (ys := ys) h1 h2 h3 hy⟩
  simp only [mExtend, h1, gE]
  rw [if_pos (by unfold sizeLine; omega)]
/-- one more web, unlike -/
theorem Uk.web {P' : Nat} {a : AV} {ts : List Stp} {r : AV → AH → Prop} (U : Uk s n P L ss O w j b M0 M) (J : Its s n a (ts.map Stp.av) M) (nd : ts.Nodup) (hl : ts.length ≤ 100) (hp : 1 ≤ P') (ho : ∀ st ∈ ts, stepB P' st = true)
    (ne : P ≠ P' ∨ srt ss ≠ srt ts) (k : ∀ i M', Grw M M' → Uk s n P L ss O w j b M0 M' → Oth O s n w M' (.ref i) → r (.ref i) M') :
    OkR (makeA "Web" 3 f_Web_init [.int P', a] M) r := by
  have lO := U.ltO
  have l1 := U.ls
  have l2 := U.ln
  have l3 := U.lt0
  refine make_web J (like_avs _) nd (by omega) hp ho ?_
  intro j' M1 g1 h1 lj
  have U1 := U.fr g1.fr
  refine k _ _ g1 U1 (oth_web U1.h h1 U.wX U.jX ?_ ?_ ne)
  · rintro (e | e | e) <;> omega
  · rintro (e | e | e) <;> omega
end
/-! ### a step with something otherwise -/
def nrI (x : Int) : Int := if -9 < x then x - 1 else x + 1
theorem nrI_ne {x : Int} : nrI x ≠ x := by
  unfold nrI
  split <;> omega
theorem near_ok {x : Int} {M : AH} : f_law_near [.val (.int x)] M = .ok (.int (nrI x)) M := by
  have e : OkR (f_law_near [.val (.int x)] M) fun r M' => r = .int (nrI x) ∧ M' = M := by
    refine ok_fn (ok_ret (ok_ifC (ok_cmp (ok_var (a := .int x) rfl (ok_un (ok_con ?_))))))
    refine okv (a := .int (-9)) (M := M) rfl (okv gt_ok ⟨_, rfl, ?_⟩)
    by_cases q : -9 < x
    · rw [if_pos (by simpa using q)]
      exact ok_bin (ok_var (a := .int x) rfl (ok_con (okv (a := .int (x - 1)) (M := M) rfl ⟨by rw [nrI, if_pos q], rfl⟩)))
    · rw [if_neg (by simpa using q)]
      exact ok_bin (ok_var (a := .int x) rfl (ok_con (okv (a := .int (x + 1)) (M := M) rfl ⟨by rw [nrI, if_neg q], rfl⟩)))
  obtain ⟨r, M', e, rfl, rfl⟩ := e.eq
  exact e
theorem neY_av {es : List (Str × (List SV → AH → R AV))} {a b : Stp} {M : AH} : opNeY fns ws es a.av b.av M = .ok (.bl (!decide (a = b))) M := by
  have e : opNeY fns ws es a.av b.av M = opNe a.av b.av M := by
    unfold opNeY opNeX eqOwn
    rfl
  rw [e]
  unfold opNe
  rw [datS_av, datS_av]
  simp only [eqv_pd]
theorem ok_tg5 {N : AM.Loc → AH → Prop} {T : AV → AH → Prop} {vs : AM.Loc} {M : AH} {i j k l m : Nat} {x y z u v : AV} (h : N (((((vs.set i (some (.val x))).set j (some (.val y))).set k (some (.val z))).set l (some (.val u))).set m (some (.val v))) M) : OkS (tupG 5 (consG (nameG i) (consG (nameG j) (consG (nameG k) (consG (nameG l) (consG (nameG m) nilG))))) (.tup [x, y, z, u, v]) vs M) N T := h
end K01
end

section
set_option Elab.async false
set_option linter.all false
set_option autoImplicit false
set_option maxRecDepth 100000
set_option maxHeartbeats 4000000
/-! k01, the plain side: other webs. -/
namespace K01
open PySem AM L2 AP
local macro_rules | `(tactic| and_intros) => `(tactic| repeat (first | (with_reducible first | refine ok_seq ?_ | refine ok_ret ?_ | refine ok_set ?_ | refine ok_drop ?_ | refine ok_con ?_ | refine ok_nil ?_ | refine ok_cons ?_ | refine ok_args ?_ | refine ok_bin ?_ | refine ok_un ?_ | refine ok_tru ?_ | refine ok_notT ?_ | refine ok_cmp ?_ | refine ok_par ?_ | refine ok_for ?_ | refine ok_skip ?_ | refine ok_notC ?_ | refine ok_ifC ?_ | refine ok_call ?_) | ((with_reducible apply ok_var); exact rfl)))
section
variable {s n c P L O w j b : Nat} {ss : List Stp} {st : Stp} {M M' M0 : AH}
def rst (ss : List Stp) (st : Stp) : List Stp := ss.filter fun x => decide (x ≠ st)
theorem rst_nodup (h : ss.Nodup) : (rst ss st).Nodup := h.sublist List.filter_sublist
theorem rst_mem {x : Stp} : x ∈ rst ss st ↔ x ∈ ss ∧ x ≠ st := by
  unfold rst
  rw [List.mem_filter, decide_eq_true_eq]
theorem rst_len : (rst ss st).length ≤ ss.length := List.length_filter_le ..
/-- the other steps -/
theorem rest_ok {z0 z1 z3 z4 z10 z11 z12 : Option SV} (T : Trn s n P L ss M) {Q : AV → AH → Prop} (k : ∀ M', Grw M M' → M'[M.length]? = some (.lst ((rst ss st).map Stp.av)) → Q (.ref M.length) M') :
    OkR (lcC [11] (valI (varC 2)) (nameG 11) (cmpT (opNeY fns ws [("Web", f_Web_eq)]) (varC 11) (argsC tupA (consA (varC 5) (consA (varC 6) (consA (varC 7) (consA (varC 8) (consA (varC 9) nilA))))))) (varC 11)
      [z0, z1, some (.val (.ref L)), z3, z4, some (.val (.int st.a)), some (.val (.int st.b)), some (.val st.am), some (.val (.int st.t)), some (.val (.int st.c)), z10, z11, z12] M) Q := by
  have I := T.IL
  refine ok_lc (I.val (c := varC 2) rfl fun it wk => ?_)
  rw [wk.items]
  refine ok_lcL (fun acc rest M2 => ∃ done todo : List Stp, ss = done ++ todo ∧ rest = todo.map Stp.av ∧ acc = (rst done st).map Stp.av ∧ M2[M.length]? = some (.lst acc) ∧ Grw M M2) (fun acc rest M2 ⟨_, _, _, _, _, _, g⟩ => wk.ok _ (I.ext g)) ?_ ?_ _ [] _ ⟨[], ss, rfl, rfl, rfl, by simp, Grw.app⟩
  · rintro acc x rest M2 ⟨done, todo, e, hr, rfl, hM, g⟩
    cases todo with
    | nil => cases hr
    | cons x todo =>
      obtain ⟨rfl, rfl⟩ := List.cons.inj hr
      have hl := T.hl
      have hd : done.length ≤ ss.length := by rw [e]; simp
      have hr2 : (rst done st).length ≤ done.length := rst_len
      refine ⟨_, rfl, ok_cmp (ok_var (a := x.av) rfl (ok_args (ok_cons (ok_var (a := .int st.a) rfl (ok_cons (ok_var (a := .int st.b) rfl (ok_cons (ok_var (a := st.am) rfl (ok_cons (ok_var (a := .int st.t) rfl (ok_cons (ok_var (a := .int st.c) rfl (ok_nil (ok_tup (by simp) ?_))))))))))))))⟩
      refine okv (neY_av (a := x) (b := st)) ⟨_, rfl, ?_⟩
      have e2 : rst (done ++ [x]) st = rst done st ++ (if x = st then [] else [x]) := by
        unfold rst
        rw [List.filter_append]
        by_cases q : x = st <;> simp [q]
      by_cases q : x = st
      · rw [if_neg (by simpa using q)]
        rw [if_pos q, List.append_nil] at e2
        exact ⟨done ++ [x], todo, by rw [e]; simp, rfl, by rw [e2], hM, g⟩
      · rw [if_pos (by simpa using q)]
        rw [if_neg q] at e2
        refine ok_var (a := x.av) rfl ⟨by simp; unfold sizeLine; omega, hM, done ++ [x], todo, by rw [e]; simp, rfl, by rw [e2]; simp, set_get hM, g.fresh (Nat.le_refl _)⟩
  · rintro acc M2 ⟨done, todo, e, hr, rfl, hM, g⟩
    cases todo with
    | cons _ _ => cases hr
    | nil =>
      rw [List.append_nil] at e
      subst e
      exact k M2 g hM
/-- a web that is another one, made behind d -/
def Nw (P : Nat) (ss : List Stp) (d : Nat) (M : AH) (v : AV) : Prop := ∃ (i j' : Nat) (rs' : List Stp), v = .ref i ∧ WebIs P rs' i j' M ∧ srt ss ≠ rs' ∧ d < i ∧ d < j'
theorem Nw.ext {d : Nat} {v : AV} (h : Nw P ss d M v) (g : Grw M M') : Nw P ss d M' v := let ⟨i, j', rs', e, W, r⟩ := h; ⟨i, j', rs', e, W.ext g, r⟩
theorem Nw.set {d : Nat} {v : AV} {o : AO} (h : Nw P ss d M v) : Nw P ss d (M.set d o) v := let ⟨i, j', rs', e, W, ne, h1, h2⟩ := h; ⟨i, j', rs', e, W.setx (by omega) (by omega), ne, h1, h2⟩
/-- webs with a step otherwise -/
theorem nears_ok {R F : Nat} {nn : List Stp} {z0 z2 z3 z4 z5 z6 z7 z8 z9 z11 : Option SV} (U : Uk s n P L ss O w j b M0 M) (gR : M[R]? = some (.lst ((rst ss st).map Stp.av))) (gF : M[F]? = some (.lst (nn.map Stp.av))) (hn : ∀ x ∈ nn, x ≠ st ∧ stepB P x = true) (hnl : nn.length ≤ 4) {Q : AV → AH → Prop}
    (k : ∀ (e : Nat) (ys : List AV) (M' : AH), Grw M M' → Uk s n P L ss O w j b M0 M' → M'[e]? = some (.lst ys) → ys.length ≤ 4 → (∀ v ∈ ys, Oth O s n w M' v) → Q (.ref e) M') :
    OkR (lcC [11] (valI (varC 12)) (nameG 11) (cmpT (opIn true) (varC 11) (varC 10)) (makeC "Web" 3 f_Web_init (consA (varC 1) (consA (bin2 opAdd (varC 10) (argsC lstA (consA (varC 11) nilA))) nilA)))
      [z0, some (.val (.int P)), z2, z3, z4, z5, z6, z7, z8, z9, some (.val (.ref R)), z11, some (.val (.ref F))] M) Q := by
  have I : Its (F + 1) (F + 1) (.ref F) (nn.map Stp.av) M := .inr ⟨F, rfl, by omega, by omega, gF⟩
  have hP1 := U.T.p1
  have hl := U.T.hl
  have hr2 : (rst ss st).length ≤ ss.length := rst_len
  refine ok_lc (I.val (c := varC 12) rfl fun it wk => ?_)
  rw [wk.items]
  refine ok_lcL (fun acc rest M2 => ∃ done todo : List Stp, nn = done ++ todo ∧ rest = todo.map Stp.av ∧ acc.length ≤ done.length ∧ (∀ v ∈ acc, Nw P ss M.length M2 v) ∧ M2[M.length]? = some (.lst acc) ∧ Grw M M2) (fun acc rest M2 ⟨_, _, _, _, _, _, _, g⟩ => wk.ok _ (I.ext g)) ?_ ?_ _ [] _ ⟨[], nn, rfl, rfl, by simp, by simp, by simp, Grw.app⟩
  · rintro acc x rest M2 ⟨done, todo, e, hr, hal, ha, hM, g⟩
    cases todo with
    | nil => cases hr
    | cons x todo =>
      obtain ⟨rfl, rfl⟩ := List.cons.inj hr
      have hd : done.length + 1 ≤ nn.length := by rw [e]; simp
      obtain ⟨x1, x2⟩ := hn x (by rw [e]; simp)
      have gR2 := g.get _ _ gR
      refine ⟨_, rfl, ok_cmp (ok_var (a := x.av) rfl (ok_var (a := .ref R) rfl (okv (in_list gR2 true) ⟨_, rfl, ?_⟩)))⟩
      by_cases q : x ∈ rst ss st
      · rw [if_neg (by simpa using q)]
        exact ⟨done ++ [x], todo, by rw [e]; simp, rfl, by simp; omega, ha, hM, g⟩
      · rw [if_pos (by simpa using q)]
        refine ok_make (ok_cons (ok_var (a := .int P) rfl (ok_cons (ok_bin (ok_var (a := .ref R) rfl (ok_args (ok_cons (ok_var (a := x.av) rfl (ok_nil (ok_new (by simp) fun o M3 g3 _ _ go => ?_))))))))))
        refine okv (add_ok (g3.get _ _ gR2) go (by simp; omega)) (ok_nil ?_)
        have e4 : (rst ss st).map Stp.av ++ [x.av] = (rst ss st ++ [x]).map Stp.av := by simp
        rw [e4]
        have h4 : (M3 ++ [AO.lst ((rst ss st ++ [x]).map Stp.av)])[M3.length]? = some (.lst ((rst ss st ++ [x]).map Stp.av)) := by simp
        have g4 : Grw M3 (M3 ++ [AO.lst ((rst ss st ++ [x]).map Stp.av)]) := Grw.app
        have gg := (g.trans g3).trans g4
        have lM3 := (g.trans g3).len
        have l1 := U.ls
        have l2 := U.ln
        have l3 := U.lt0
        have nss : x ∉ ss := fun h => q (rst_mem.mpr ⟨h, x1⟩)
        refine make_web (s := s) (n := n) (.inr ⟨M3.length, rfl, by omega, by omega, h4⟩) (like_avs _) ?_ (by simp; omega) hP1 ?_ ?_
        · rw [List.nodup_append]
          refine ⟨rst_nodup U.T.nd, by simp, ?_⟩
          intro a ha b hb e
          rw [List.mem_singleton.mp hb] at e
          exact q (e ▸ ha)
        · intro y hy
          rcases List.mem_append.mp hy with hy | hy
          · exact U.T.hb y (rst_mem.mp hy).1
          · rw [List.mem_singleton.mp hy]; exact x2
        · intro j' M5 g5 W5 lj
          have gg5 := (g3.trans g4).trans g5
          have hM5 := gg5.get _ _ hM
          have lt4 := get_lt h4
          refine ⟨by unfold sizeLine; omega, hM5, done ++ [x], todo, by rw [e]; simp, rfl, by simp; omega, ?_, set_get hM5, (g.trans gg5).fresh (Nat.le_refl _)⟩
          intro v hv
          rcases List.mem_append.mp hv with hv | hv
          · exact ((ha v hv).ext gg5).set
          · rw [List.mem_singleton.mp hv]
            exact ⟨_, j', _, rfl, W5.setx (by omega) (by omega), fun e => srt_ne (rs := rst ss st ++ [x]) (ts := ss) (x := x) (by simp) nss e.symm, by omega, by omega⟩
  · rintro acc M2 ⟨done, todo, e, hr, hal, ha, hM, g⟩
    have hd : done.length ≤ nn.length := by rw [e]; simp
    have U2 := U.fr g.fr
    have l0 := U.ltO
    have l1 := U.ls
    have l2 := U.ln
    have l3 := U.lt0
    refine k _ acc M2 g U2 hM (by omega) fun v hv => ?_
    obtain ⟨i, j', rs', rfl, W', ne, h1, h2⟩ := ha v hv
    refine oth_web U2.h W' U.wX U.jX ?_ ?_ (.inr ne)
    · rintro (e | e | e) <;> omega
    · rintro (e | e | e) <;> omega
end
end K01
end

section
set_option Elab.async false
set_option linter.all false
set_option autoImplicit false
set_option maxRecDepth 100000
set_option maxHeartbeats 4000000
/-! k01, the plain side: steps near a step. -/
namespace K01
open PySem AM L2 AP
local macro_rules | `(tactic| and_intros) => `(tactic| repeat (first | (with_reducible first | refine ok_seq ?_ | refine ok_ret ?_ | refine ok_set ?_ | refine ok_drop ?_ | refine ok_con ?_ | refine ok_nil ?_ | refine ok_cons ?_ | refine ok_args ?_ | refine ok_bin ?_ | refine ok_un ?_ | refine ok_tru ?_ | refine ok_notT ?_ | refine ok_cmp ?_ | refine ok_par ?_ | refine ok_for ?_ | refine ok_skip ?_ | refine ok_notC ?_ | refine ok_ifC ?_ | refine ok_call ?_) | ((with_reducible apply ok_var); exact rfl)))
/-- the steps near st -/
def nears (st : Stp) : List Stp := [{ st with x := nrI st.x }, { st with y := nrI st.y }, { st with t := if 1 < st.t then st.t - 1 else 2 }, { st with c := nrI st.c }]
theorem nears_ne {st x : Stp} (h : x ∈ nears st) : x ≠ st := by
  unfold nears at h
  simp only [List.mem_cons, List.not_mem_nil, or_false] at h
  intro e
  rcases h with rfl | rfl | rfl | rfl
  · exact nrI_ne (congrArg Stp.x e)
  · exact nrI_ne (congrArg Stp.y e)
  · have := congrArg Stp.t e
    simp only at this
    split at this <;> omega
  · exact nrI_ne (congrArg Stp.c e)
theorem nears_ok' {P : Nat} {st x : Stp} (hs : StpOk P st) (h : x ∈ nears st) : stepB P x = true := by
  have := hs.a0
  have := hs.a1
  have := hs.b0
  have := hs.b1
  have := hs.t0
  unfold nears at h
  simp only [List.mem_cons, List.not_mem_nil, or_false] at h
  unfold stepB
  simp only [Bool.and_eq_true, decide_eq_true_eq]
  rcases h with rfl | rfl | rfl | rfl
  · simp only; omega
  · simp only; omega
  · simp only
    split <;> omega
  · simp only; omega
theorem near4_ok {st : Stp} {z0 z1 z2 z3 z4 z10 z11 z12 : Option SV} {rest : CS} {M : AH} {N : AM.Loc → AH → Prop} {T : AV → AH → Prop}
    (k : ∀ (f : Nat) (M' : AH), Grw M M' → M.length ≤ f → M'[f]? = some (.lst ((nears st).map Stp.av)) → OkS (rest [z0, z1, z2, z3, z4, some (.val (.int st.a)), some (.val (.int st.b)), some (.val st.am), some (.val (.int st.t)), some (.val (.int st.c)), z10, z11, some (.val (.ref f))] M') N T) :
    OkS ((seqC (asgC (argsC lstA (consA (argsC tupA (consA (varC 5) (consA (varC 6) (consA (argsC tupA (consA (callC 1 f_law_near (consA (bin2 opIx (varC 7) (conC (.int 0))) nilA)) (consA (bin2 opIx (varC 7) (conC (.int 1))) nilA))) (consA (varC 8) (consA (varC 9) nilA)))))) nilA)) (nameG 12))
  (seqC (dropC (methK (onT "list" mAppend) (varC 12) (consA (argsC tupA (consA (varC 5) (consA (varC 6) (consA (argsC tupA (consA (bin2 opIx (varC 7) (conC (.int 0))) (consA (callC 1 f_law_near (consA (bin2 opIx (varC 7) (conC (.int 1))) nilA)) nilA))) (consA (varC 8) (consA (varC 9) nilA)))))) nilA)))
  (seqC (dropC (methK (onT "list" mAppend) (varC 12) (consA (argsC tupA (consA (varC 5) (consA (varC 6) (consA (varC 7) (consA (ifC (cmpT opGt (varC 8) (conC (.int 1))) (bin2 opSub (varC 8) (conC (.int 1))) (conC (.int 2))) (consA (varC 9) nilA)))))) nilA)))
  (seqC (dropC (methK (onT "list" mAppend) (varC 12) (consA (argsC tupA (consA (varC 5) (consA (varC 6) (consA (varC 7) (consA (varC 8) (consA (callC 1 f_law_near (consA (varC 9) nilA)) nilA)))))) nilA))) rest)))) [z0, z1, z2, z3, z4, some (.val (.int st.a)), some (.val (.int st.b)), some (.val st.am), some (.val (.int st.t)), some (.val (.int st.c)), z10, z11, z12] M) N T := by
  have nr : ∀ {x : Int} {vs : AM.Loc} {M : AH} {c : CE} {Q : AV → AH → Prop}, OkR (c vs M) (fun a M1 => a = .int x ∧ M1 = M) → Q (.int (nrI x)) M → OkR (callC 1 f_law_near (consA c nilA) vs M) Q := by
    intro x vs M c Q h1 h2
    refine ok_call (ok_cons (h1.imp ?_))
    rintro a M1 ⟨rfl, rfl⟩
    exact ok_nil ⟨rfl, okv near_ok h2⟩
  have ix : ∀ {vs : AM.Loc} {M : AH} {i : Int} {v : AV} {Q : AV → AH → Prop}, vs[7]? = some (some (.val st.am)) → opIx st.am (.int i) M = .ok v M → Q v M → OkR (bin2 opIx (varC 7) (conC (.int i)) vs M) Q := fun h1 h2 h3 => ok_bin (ok_var h1 (ok_con (okv h2 h3)))
  refine ok_seq (ok_set (ok_args (ok_cons (ok_args (ok_cons (ok_var (a := .int st.a) rfl (ok_cons (ok_var (a := .int st.b) rfl (ok_cons ?_)))))))))
  refine ok_args (ok_cons (nr (x := st.x) (ix rfl (v := .int st.x) rfl ⟨rfl, rfl⟩) (ok_cons (ix rfl (v := .int st.y) rfl (ok_nil (ok_tup (by simp) ?_))))))
  refine ok_cons (ok_var (a := .int st.t) rfl (ok_cons (ok_var (a := .int st.c) rfl (ok_nil (ok_tup (by simp) (ok_nil (ok_new (by simp) fun f M1 g1 lf lf2 gf => ?_)))))))
  -- the second
  refine ok_seq (ok_drop (ok_meth (ok_var (a := .ref f) rfl ⟨_, kind_lst gf, ?_⟩)))
  refine ok_cons (ok_args (ok_cons (ok_var (a := .int st.a) rfl (ok_cons (ok_var (a := .int st.b) rfl (ok_cons ?_))))))
  refine ok_args (ok_cons (ix rfl (v := .int st.x) rfl (ok_cons (nr (x := st.y) (ix rfl (v := .int st.y) rfl ⟨rfl, rfl⟩) (ok_nil (ok_tup (by simp) ?_))))))
  refine ok_cons (ok_var (a := .int st.t) rfl (ok_cons (ok_var (a := .int st.c) rfl (ok_nil (ok_tup (by simp) (ok_nil ?_))))))
  refine okv (append_ok gf (by simp; unfold sizeLine; decide)) ?_
  have g2 := g1.fresh (o := .lst ([.tup [.int st.a, .int st.b, .tup [.int (nrI st.x), .int st.y], .int st.t, .int st.c]] ++ [.tup [.int st.a, .int st.b, .tup [.int st.x, .int (nrI st.y)], .int st.t, .int st.c]])) lf
  have gf2 : (M1.set f (.lst ([.tup [.int st.a, .int st.b, .tup [.int (nrI st.x), .int st.y], .int st.t, .int st.c]] ++ [.tup [.int st.a, .int st.b, .tup [.int st.x, .int (nrI st.y)], .int st.t, .int st.c]])))[f]? = some (.lst [.tup [.int st.a, .int st.b, .tup [.int (nrI st.x), .int st.y], .int st.t, .int st.c], .tup [.int st.a, .int st.b, .tup [.int st.x, .int (nrI st.y)], .int st.t, .int st.c]]) := set_get gf
  generalize M1.set f (.lst ([.tup [.int st.a, .int st.b, .tup [.int (nrI st.x), .int st.y], .int st.t, .int st.c]] ++ [.tup [.int st.a, .int st.b, .tup [.int st.x, .int (nrI st.y)], .int st.t, .int st.c]])) = M2 at g2 gf2
  -- the third
  refine ok_seq (ok_drop (ok_meth (ok_var (a := .ref f) rfl ⟨_, kind_lst gf2, ?_⟩)))
  refine ok_cons (ok_args (ok_cons (ok_var (a := .int st.a) rfl (ok_cons (ok_var (a := .int st.b) rfl (ok_cons (ok_var (a := st.am) rfl (ok_cons ?_))))))))
  refine OkR.imp (Q := fun r M' => r = .int (if 1 < st.t then st.t - 1 else 2) ∧ M' = M2) ?tt ?_
  case tt =>
    refine ok_ifC (ok_cmp (ok_var (a := .int st.t) rfl (ok_con (okv gt_ok ⟨_, rfl, ?_⟩))))
    by_cases q : 1 < st.t
    · rw [if_pos (by simpa using q), if_pos q]
      exact ok_bin (ok_var (a := .int st.t) rfl (ok_con (okv (a := .int (st.t - 1)) (M := M2) rfl ⟨rfl, rfl⟩)))
    · rw [if_neg (by simpa using q), if_neg q]
      exact ok_con ⟨rfl, rfl⟩
  rintro r M3 ⟨rfl, rfl⟩
  refine ok_cons (ok_var (a := .int st.c) rfl (ok_nil (ok_tup (by simp) (ok_nil ?_))))
  refine okv (append_ok gf2 (by simp; unfold sizeLine; decide)) ?_
  have g3 := g2.fresh (o := .lst ([.tup [.int st.a, .int st.b, .tup [.int (nrI st.x), .int st.y], .int st.t, .int st.c], .tup [.int st.a, .int st.b, .tup [.int st.x, .int (nrI st.y)], .int st.t, .int st.c]] ++ [.tup [.int st.a, .int st.b, st.am, .int (if 1 < st.t then st.t - 1 else 2), .int st.c]])) lf
  have gf3 := set_get (o' := .lst ([.tup [.int st.a, .int st.b, .tup [.int (nrI st.x), .int st.y], .int st.t, .int st.c], .tup [.int st.a, .int st.b, .tup [.int st.x, .int (nrI st.y)], .int st.t, .int st.c]] ++ [.tup [.int st.a, .int st.b, st.am, .int (if 1 < st.t then st.t - 1 else 2), .int st.c]])) gf2
  generalize hM4 : M3.set f (.lst ([.tup [.int st.a, .int st.b, .tup [.int (nrI st.x), .int st.y], .int st.t, .int st.c], .tup [.int st.a, .int st.b, .tup [.int st.x, .int (nrI st.y)], .int st.t, .int st.c]] ++ [.tup [.int st.a, .int st.b, st.am, .int (if 1 < st.t then st.t - 1 else 2), .int st.c]])) = M4 at g3 gf3
  -- the fourth
  refine ok_seq (ok_drop (ok_meth (ok_var (a := .ref f) rfl ⟨_, kind_lst gf3, ?_⟩)))
  refine ok_cons (ok_args (ok_cons (ok_var (a := .int st.a) rfl (ok_cons (ok_var (a := .int st.b) rfl (ok_cons (ok_var (a := st.am) rfl (ok_cons (ok_var (a := .int st.t) rfl (ok_cons (nr (x := st.c) (ok_var (a := .int st.c) rfl ⟨rfl, rfl⟩) (ok_nil (ok_tup (by simp) (ok_nil ?_))))))))))))))
  refine okv (append_ok gf3 (by simp; unfold sizeLine; decide)) ?_
  exact k f _ (g3.fresh lf) lf (set_get gf3)
end K01
end

section
set_option Elab.async false
set_option linter.all false
set_option autoImplicit false
set_option maxRecDepth 100000
set_option maxHeartbeats 4000000
/-! k01, the plain side: unlike_right. -/
namespace K01
open PySem AM L2 AP
local macro_rules | `(tactic| and_intros) => `(tactic| repeat (first | (with_reducible first | refine ok_seq ?_ | refine ok_ret ?_ | refine ok_set ?_ | refine ok_drop ?_ | refine ok_con ?_ | refine ok_nil ?_ | refine ok_cons ?_ | refine ok_args ?_ | refine ok_bin ?_ | refine ok_un ?_ | refine ok_tru ?_ | refine ok_notT ?_ | refine ok_cmp ?_ | refine ok_par ?_ | refine ok_for ?_ | refine ok_skip ?_ | refine ok_notC ?_ | refine ok_ifC ?_ | refine ok_call ?_) | ((with_reducible apply ok_var); exact rfl)))
section
variable {s n c P L : Nat} {ss : List Stp} {M M' : AH}
theorem dct_frx {O d : Nat} {xs : List (AV × AV)} (h : M[d]? = some (.dct xs)) (hd : ¬ XO O s n d) : ∀ M', FrX (XO O s n) M M' → tyA fns ws M' (.ref d) = some .dct := fun M' g => by simp only [tyA, g.get _ _ hd h]
theorem lst_frx {O d : Nat} {xs : List AV} (h : M[d]? = some (.lst xs)) (hd : ¬ XO O s n d) : ∀ M', FrX (XO O s n) M M' → tyA fns ws M' (.ref d) = some .lst := fun M' g => by simp only [tyA, g.get _ _ hd h]
theorem unlike_right_ok (S : Strm s n c M) (hc : c + 1000 < 2 ^ 40) (T : Trn s n P L ss M) :
    OkR (f_law_unlike_right [.val (.ref s), .val (.int P), .val (.ref L)] M) fun v M' => v = .bl true ∧ Strm s n (c + 1) M' ∧ Fr s n M M' := by
  have hpk : ∀ {c : Nat} {a : AV} {xs : List AV} {M : AH}, Strm s n c M → c < 2 ^ 40 → Its s n a xs M → xs ≠ [] → xs.length ≤ sizeLine →
    OkR (f_law_pick [.val (.ref s), .val a] M) fun v M' => v ∈ xs ∧ Strm s n (c + 1) M' ∧ Fr s n M M' := fun h1 h2 h3 h4 h5 => pick_ok h1 h2 h3 h4 h5
  unfold f_law_unlike_right c_law_unlike_right
  generalize f_law_pick = PK at hpk ⊢
  have hl := T.hl
  have hp1 := T.p1
  have hp2 := T.p2
  have hlt : ss.length < 1000000 := by omega
  have lts := Strm.lts S
  have ltn := Strm.ltn S
  have lL := get_lt T.gL
  have hLs := T.Ls
  have hLn := T.Ln
  refine ok_fn (ok_seq (ok_set (ok_make ?_)))
  and_intros
  refine make_web T.IL (like_avs _) T.nd hlt hp1 T.hb ?_
  intro j M1 g1 W1 lj
  have T1 := T.fr g1.fr
  have lM1 := get_lt W1.2
  -- the first others
  refine ok_seq (ok_set (ok_bin (ok_args (ok_cons (ok_con (ok_cons (ok_var (a := .ref L) rfl (ok_cons (ok_var (a := .int P) rfl (ok_cons (ok_args (ok_cons (ok_var (a := .int P) rfl (ok_cons (ok_var (a := .ref L) rfl (ok_nil (ok_tup (by simp) (ok_cons (ok_con (ok_cons ?_))))))))))))))))))))
  refine ok_newD fun d M2 g2 ld ld2 gd => ok_nil (ok_new (by simp) fun e M3 g3 le le2 ge => ?_)
  have g13 := g2.trans g3
  refine OkR.imp (Q := fun r M' => ∃ (e2 : Nat) (ys : List AV), r = .ref e2 ∧ M'[e2]? = some (.lst ys) ∧ Grw M3 M' ∧ ys.length ≤ 1 ∧ ∀ v ∈ ys, ∃ i j', v = .ref i ∧ WebIs (P + 1 : Nat) (srt ss) i j' M' ∧ M.length < i ∧ M.length < j') ?more ?_
  case more =>
    refine ok_ifC (ok_cmp (ok_var (a := .int P) rfl (ok_con (okv lt_int ⟨_, rfl, ?_⟩))))
    by_cases q : (P : Int) < 6
    · rw [if_pos (by simpa using q)]
      refine ok_args (ok_cons (ok_make (ok_cons (ok_bin (ok_var (a := .int P) rfl (ok_con ?_))))))
      refine okv (a := .int ((P + 1 : Nat) : Int)) (M := M3) rfl ?_
      refine ok_cons (ok_var (a := .ref L) rfl (ok_nil ?_))
      have T3 := T1.fr g13.fr
      refine make_web T3.IL (like_avs _) T.nd hlt (by omega) (fun st hs => ?_) ?_
      · have h := T.ho st hs
        have := h.a0
        have := h.a1
        have := h.b0
        have := h.b1
        have := h.t0
        unfold stepB
        simp only [Bool.and_eq_true, decide_eq_true_eq]
        omega
      intro j4 M4 g4 W4 lj4
      refine ok_nil (ok_new (by simp) fun e2 M5 g5 _ _ ge2 => ⟨e2, _, rfl, ge2, g4.trans g5, by simp, fun v hv => ?_⟩)
      rw [List.mem_singleton.mp hv]
      exact ⟨_, j4, rfl, W4.ext g5, by have := get_lt (g13.get _ _ W1.1); omega, by have := get_lt (g13.get _ _ W1.1); omega⟩
    · rw [if_neg (by simpa using q)]
      exact ok_args (ok_nil (ok_new (by simp) fun e2 M5 g5 _ _ ge2 => ⟨e2, _, rfl, ge2, g5, by simp, fun v hv => by simp at hv⟩))
  rintro r M4 ⟨e2, ys, rfl, ge2, g4, hyl, hy⟩
  refine okv (add_ok (g4.get _ _ ge) ge2 (by simp; omega)) ?_
  have gO : (M4 ++ [AO.lst ([.non, .ref L, .int P, .tup [.int P, .ref L], .str "web", .ref d] ++ ys)])[M4.length]? = some (.lst ([.non, .ref L, .int P, .tup [.int P, .ref L], .str "web", .ref d] ++ ys)) := by simp
  have g5 : Grw M4 (M4 ++ [AO.lst ([.non, .ref L, .int P, .tup [.int P, .ref L], .str "web", .ref d] ++ ys)]) := Grw.app
  have hge := get_lt (g4.get _ _ ge)
  have lw4 : M.length < M4.length := get_lt ((g13.trans g4).get _ _ W1.1)
  have lj4 : j < M4.length := get_lt ((g13.trans g4).get _ _ W1.2)
  have ld4 : d < M4.length := get_lt ((g3.trans g4).get _ _ gd)
  have hyO : ∀ v ∈ ys, ∃ i j', v = .ref i ∧ WebIs (P + 1 : Nat) (srt ss) i j' M4 ∧ i < M4.length ∧ j' < M4.length ∧ i ≠ s ∧ i ≠ n ∧ j' ≠ s ∧ j' ≠ n := fun v hv => by
    obtain ⟨i, j', e, W', h1, h2⟩ := hy v hv
    exact ⟨i, j', e, W', get_lt W'.1, get_lt W'.2, by omega, by omega, by omega, by omega⟩
  generalize hO : M4.length = O at gO lw4 lj4 ld4
  generalize M4 ++ [AO.lst ([.non, .ref L, .int P, .tup [.int P, .ref L], .str "web", .ref d] ++ ys)] = M5 at gO g5
  have g15 := (g13.trans g4).trans g5
  have wX : ¬ XO O s n M.length := by rintro (e | e | e) <;> omega
  have jX : ¬ XO O s n j := by rintro (e | e | e) <;> omega
  have U : Uk s n P L ss O M.length j 7 M M5 := by
    refine { T := T1.fr g15.fr, h := W1.ext g15, F := (g1.trans g15).fr, l0 := by omega, ls := lts, ln := ltn, lL := lL, wX := wX, jX := jX, hO := ⟨_, gO, by simp; omega, fun v hv => ?_⟩ }
    have W5 := W1.ext g15
    simp only [List.mem_append, List.mem_cons, List.not_mem_nil, or_false] at hv
    rcases hv with (rfl | rfl | rfl | rfl | rfl | rfl) | hv
    · exact oth_no (t := .non) W5 wX jX (fun _ _ => rfl) (fun _ _ => rfl)
    · have ty := lst_frx (O := O) (s := s) (n := n) (T1.fr g15.fr).gL (by rintro (e | e | e) <;> omega)
      refine oth_no W5 wX jX ty fun M' f => ?_
      have t := ty M' f
      unfold isA2 isA
      simp only [t]
      rfl
    · exact oth_no (t := .int) W5 wX jX (fun _ _ => rfl) (fun _ _ => rfl)
    · exact oth_no (t := .tup) W5 wX jX (fun _ _ => rfl) (fun _ _ => rfl)
    · exact oth_no (t := .str) W5 wX jX (fun _ _ => rfl) (fun _ _ => rfl)
    · have ty := dct_frx (O := O) (s := s) (n := n) ((g3.trans (g4.trans g5)).get _ _ gd) (by rintro (e | e | e) <;> omega)
      refine oth_no W5 wX jX ty fun M' f => ?_
      have t := ty M' f
      unfold isA2 isA
      simp only [t]
      rfl
    · obtain ⟨i, j', rfl, W', h1, h2, h3, h4, h5, h6⟩ := hyO v hv
      refine oth_web W5 (W'.ext g5) wX jX ?_ ?_ (.inl (by omega))
      · rintro (e | e | e) <;> omega
      · rintro (e | e | e) <;> omega
  have S5 := S.ext (g1.trans g15)
  have T5 := U.T
  clear gO hyO hy ge2
  refine ok_seq (OkS.imp (N := fun vs' M' => ∃ (b : Nat) (q5 q6 q7 q8 q9 q10 q11 q12 : Option SV), vs' = [some (.val (.ref s)), some (.val (.int P)), some (.val (.ref L)), some (.val (.ref M.length)), some (.val (.ref O)), q5, q6, q7, q8, q9, q10, q11, q12] ∧ Strm s n (c + 1) M' ∧ b ≤ 20 ∧ Uk s n P L ss O M.length j b M M') (T := fun _ _ => False) ?mid ?rest fun _ _ z => z.elim)
  case mid =>
    refine ok_if (ok_cmp (ok_var (a := .ref L) rfl (ok_args (ok_nil (ok_new (by simp) fun e M6 g6 _ _ ge => okv (neY_steps (g6.get _ _ T5.gL) ge) ⟨_, rfl, ?_⟩)))))
    have U6 := U.fr g6.fr
    have S6 := S5.ext g6
    by_cases q : ss = []
    · rw [if_neg (by simpa using q)]
      exact ⟨7, _, _, _, _, _, _, _, _, rfl, S6.mono (by omega), by omega, U6⟩
    · rw [if_pos (by simpa using q)]
      refine ok_seq (ok_asg (ok_call (ok_cons (ok_var (a := .ref s) rfl (ok_cons (ok_var (a := .ref L) rfl (ok_nil ⟨rfl, ?_⟩)))))))
      refine (hpk (a := .ref L) (xs := ss.map Stp.av) S6 (by omega) U6.T.IL (by simpa using q) (by simp; unfold sizeLine; omega)).imp ?_
      rintro v M7 ⟨hv, S7, f7⟩
      obtain ⟨st, hst, rfl⟩ := List.mem_map.mp hv
      have U7 := U6.fr f7
      have hso := T.ho st hst
      refine ok_tg5 (x := .int st.a) (y := .int st.b) (z := st.am) (u := .int st.t) (v := .int st.c) ?_
      refine ok_seq (ok_set (rest_ok (st := st) U7.T ?_))
      intro M8 g8 gR
      have U8 := U7.fr g8.fr
      have rl : (rst ss st).length ≤ ss.length := rst_len
      -- one step less
      refine ok_seq (ok_drop (ok_meth (ok_var (a := .ref O) rfl ?_)))
      obtain ⟨xs8, hO8, _⟩ := U8.hO
      refine ⟨_, kind_lst hO8, ?_⟩
      clear hO8
      refine ok_cons (ok_make (ok_cons (ok_var (a := .int P) rfl (ok_cons (ok_var (a := .ref M7.length) rfl (ok_nil ?_))))))
      have l7 := U7.lt0
      refine U8.web (.inr ⟨M7.length, rfl, by omega, by omega, gR⟩) (rst_nodup T.nd) (by omega) hp1 (fun y hy => T.hb y (rst_mem.mp hy).1) (.inr (srt_ne hst fun h => (rst_mem.mp h).2 rfl)) ?_
      intro i9 M9 g9 U9 o9
      refine ok_nil ?_
      obtain ⟨ob, e10, U10⟩ := U9.add1 (by omega) o9
      refine okv e10 ?_
      have lO7 := U7.ltO
      have lO5 := U.l0
      have gR10 : (M9.set O ob)[M7.length]? = some (.lst ((rst ss st).map Stp.av)) := by rw [set_ne (by omega)]; exact g9.get _ _ gR
      have S10 : Strm s n (c + 1) (M9.set O ob) := (S7.ext (g8.trans g9)).set (by omega) (by omega)
      generalize M9.set O ob = M10 at U10 gR10 S10
      -- the near ones
      refine near4_ok (st := st) ?_
      intro f M11 g11 lf gf
      have U11 := U10.fr g11.fr
      have S11 := S10.ext g11
      obtain ⟨xs11, hO11, _⟩ := U11.hO
      refine ok_drop (ok_meth (ok_var (a := .ref O) rfl ⟨_, kind_lst hO11, ?_⟩))
      clear hO11
      refine ok_cons (nears_ok (st := st) U11 (g11.get _ _ gR10) gf (fun x hx => ⟨nears_ne hx, nears_ok' hso hx⟩) (by simp [nears]) ?_)
      intro e ys M12 g12 U12 ge12 hy1 hy2
      refine ok_nil ?_
      obtain ⟨ob2, e13, U13⟩ := U12.addL (by omega) ge12 (by omega) hy2
      have l0 := U.l0
      exact okv e13 ⟨_, _, _, _, _, _, _, _, _, rfl, (S11.ext g12).set (by omega) (by omega), by omega, U13⟩
  case rest =>
    rintro vs' M6 ⟨b, q5, q6, q7, q8, q9, q10, q11, q12, rfl, S6, hb, U6⟩
    obtain ⟨xs, gO, hxl, hoth⟩ := U6.hO
    have l0 := U6.l0
    have IO : Its s n (.ref O) xs M6 := .inr ⟨O, rfl, by omega, by omega, gO⟩
    have A2 (b : Bool) : ∀ ys : List AV, (∀ v ∈ ys, v ∈ xs) → All2 (fun v r => r = AV.bl b ∧ v ∈ xs) ys ((ys.map fun _ => b).map AV.bl) := by
      intro ys
      induction ys with
      | nil => exact fun _ => .nil
      | cons y ys ih => exact fun h => .cons ⟨rfl, h y (List.mem_cons_self ..)⟩ (ih fun v hv => h v (List.mem_cons_of_mem _ hv))
    refine ok_ret (ok_andC (ok_notC (ok_args (ok_cons (ok_lc (IO.val (c := varC 4) rfl fun it wk => ?_))))))
    refine ok_lcG (fun M' g => wk.ok _ (IO.ext g)) (by rw [wk.items]; exact A2 false xs fun _ h => h) (by simp; omega) ?_ ?_
    · rintro v r M7 ⟨rfl, hv⟩ g7
      refine ⟨_, rfl, ok_bin (ok_var (a := .ref M.length) rfl (ok_var (a := v) rfl ?_))⟩
      exact okv (hoth v hv M7 g7.frX).1 ⟨rfl, Grw.refl⟩
    intro M7 g7 hd7
    refine ok_nil (okv (any_bls hd7) ⟨_, rfl, _, rfl, ?_⟩)
    rw [if_pos (by simp)]
    have IO7 := IO.ext g7
    refine ok_args (ok_cons (ok_lc (IO7.val (c := varC 4) rfl fun it wk => ?_)))
    refine ok_lcG (fun M' g => wk.ok _ (IO7.ext g)) (by rw [wk.items]; exact A2 true xs fun _ h => h) (by simp; omega) ?_ ?_
    · rintro v r M8 ⟨rfl, hv⟩ g8
      refine ⟨_, rfl, ok_bin (ok_var (a := .ref M.length) rfl (ok_var (a := v) rfl ?_))⟩
      exact okv (hoth v hv M8 (g7.trans g8).frX).2 ⟨rfl, Grw.refl⟩
    intro M8 g8 hd8
    refine ok_nil (okv (all_bls hd8) ⟨?_, S6.ext (g7.trans g8), U6.F.trans (g7.trans g8).fr⟩)
    simp
end
end K01
end

section
set_option Elab.async false
set_option linter.all false
set_option autoImplicit false
set_option maxRecDepth 100000
set_option maxHeartbeats 4000000
/-! k01, the plain side: what is no step. -/
namespace K01
open PySem AM L2 AP
local macro_rules | `(tactic| and_intros) => `(tactic| repeat (first | (with_reducible first | refine ok_seq ?_ | refine ok_ret ?_ | refine ok_set ?_ | refine ok_drop ?_ | refine ok_con ?_ | refine ok_nil ?_ | refine ok_cons ?_ | refine ok_args ?_ | refine ok_bin ?_ | refine ok_un ?_ | refine ok_tru ?_ | refine ok_notT ?_ | refine ok_cmp ?_ | refine ok_par ?_ | refine ok_for ?_ | refine ok_skip ?_ | refine ok_notC ?_ | refine ok_ifC ?_ | refine ok_call ?_) | ((with_reducible apply ok_var); exact rfl)))
section
variable {P : Nat} {a b m t c x y z : AV} {pa pb pm pt pc : Bool} {M M' : AH}
theorem opNe_int {i k : Int} : opNe (.int i) (.int k) M = .ok (.bl (!(i == k))) M := by
  unfold opNe
  rw [ds_int, ds_int]
  simp [PyData.eqv]
theorem is_list_tup {xs : List AV} : f_is_list [.val (.tup xs)] M = .ok (.bl true) M := is_list_ok (t := .tup) rfl rfl
theorem step5 (ha : f_is_place [.val a, .val (.int P)] M = .ok (.bl pa) M) (hb : f_is_place [.val b, .val (.int P)] M = .ok (.bl pb) M) (hm : f_is_pair [.val m] M = .ok (.bl pm) M) (ht : f_is_positive [.val t] M = .ok (.bl pt) M) (hc : f_is_whole [.val c] M = .ok (.bl pc) M) :
    f_is_step [.val (.tup [a, b, m, t, c]), .val (.int P)] M = .ok (.bl (pa && pb && pm && pt && pc)) M := by
  have e : OkR (f_is_step [.val (.tup [a, b, m, t, c]), .val (.int P)] M) fun r M' => r = .bl (pa && pb && pm && pt && pc) ∧ M' = M := by
    refine ok_fn (ok_seq (OkS.imp (N := fun vs' M' => (pa && pb) = true ∧ vs' = [some (.val (.tup [a, b, m, t, c])), some (.val (.int P))] ∧ M' = M) (T := fun r M' => r = .bl (pa && pb && pm && pt && pc) ∧ M' = M) ?_ ?_ fun _ _ z => z))
    · refine ok_if (orT_f ?_)
      and_intros
      refine ⟨rfl, okv is_list_tup (okv (a := true) (M := M) rfl ⟨rfl, ?_⟩)⟩
      refine orT_f ?_
      and_intros
      refine okv (a := .int 5) (M := M) rfl ?_
      and_intros
      refine okv (a := .bl false) (M := M) rfl ⟨_, rfl, rfl, ?_⟩
      cases pa with
      | false =>
        refine orT_t ?_
        and_intros
        refine okv (a := a) (M := M) rfl ?_
        and_intros
        refine ⟨rfl, okv ha (okv (a := false) (M := M) rfl ⟨rfl, ?_⟩)⟩
        rw [if_pos rfl]
        exact ok_ret (ok_con ⟨by simp, rfl⟩)
      | true =>
        refine orT_f ?_
        and_intros
        refine okv (a := a) (M := M) rfl ?_
        and_intros
        refine ⟨rfl, okv ha (okv (a := true) (M := M) rfl ⟨rfl, ?_⟩)⟩
        and_intros
        refine okv (a := b) (M := M) rfl ?_
        and_intros
        refine ⟨rfl, okv hb (okv (a := pb) (M := M) rfl ?_)⟩
        cases pb with
        | false =>
          rw [if_pos (by decide)]
          exact ok_ret (ok_con ⟨by simp, rfl⟩)
        | true =>
          rw [if_neg (by decide)]
          exact ok_skip ⟨rfl, rfl, rfl⟩
    · rintro vs' M' ⟨h, rfl, rfl⟩
      rw [h, Bool.true_and]
      refine ok_ret (ok_andC ?_)
      and_intros
      refine okv (a := m) (M := M') rfl ?_
      and_intros
      refine ⟨rfl, okv hm ⟨_, rfl, ?_⟩⟩
      cases pm with
      | false => rw [if_neg (by decide)]; exact ⟨by simp, rfl⟩
      | true =>
        rw [if_pos rfl]
        refine ok_andC ?_
        and_intros
        refine okv (a := t) (M := M') rfl ?_
        and_intros
        refine ⟨rfl, okv ht ⟨_, rfl, ?_⟩⟩
        cases pt with
        | false => rw [if_neg (by decide)]; exact ⟨by simp, rfl⟩
        | true =>
          rw [if_pos rfl]
          and_intros
          refine okv (a := c) (M := M') rfl ?_
          and_intros
          exact ⟨rfl, okv hc ⟨by simp, rfl⟩⟩
  obtain ⟨r, M', e, rfl, rfl⟩ := e.eq
  exact e
/-- rows of another length -/
theorem step_len {xs : List AV} (hl : xs.length ≠ 5) : f_is_step [.val (.tup xs), .val (.int P)] M = .ok (.bl false) M := by
  have e : OkR (f_is_step [.val (.tup xs), .val (.int P)] M) fun r M' => r = .bl false ∧ M' = M := by
    refine ok_fn (ok_seq (if_t (orT_f ?_)))
    and_intros
    refine ⟨rfl, okv is_list_tup (okv (a := true) (M := M) rfl ⟨rfl, ?_⟩)⟩
    refine orT_t ?_
    and_intros
    refine okv (a := .int xs.length) (M := M) rfl ?_
    and_intros
    refine okv (opNe_int (i := xs.length) (k := 5)) ?_
    refine ⟨_, rfl, ?_, rfl, ?_⟩
    · have : ¬ (xs.length : Int) = 5 := by omega
      simp [this]
    · exact ok_ret (ok_con ⟨rfl, rfl⟩)
  obtain ⟨r, M', e, rfl, rfl⟩ := e.eq
  exact e
/-! pairs -/
theorem pair_not {t : AT} (h : tyA fns ws M x = some t) (w : isCls ws t LT = some false) : f_is_pair [.val x] M = .ok (.bl false) M := by
  have e : OkR (f_is_pair [.val x] M) fun r M' => r = .bl false ∧ M' = M := by
    refine ok_fn (ok_ret (andC_f ?_))
    and_intros
    exact ⟨rfl, okv (is_list_ok h w) ⟨rfl, rfl, rfl⟩⟩
  obtain ⟨r, M', e, rfl, rfl⟩ := e.eq
  exact e
theorem pair_len {xs : List AV} (hl : xs.length ≠ 2) : f_is_pair [.val (.tup xs)] M = .ok (.bl false) M := by
  have e : OkR (f_is_pair [.val (.tup xs)] M) fun r M' => r = .bl false ∧ M' = M := by
    refine ok_fn (ok_ret (andC_t ?_))
    and_intros
    refine ⟨rfl, okv is_list_tup ⟨rfl, ?_⟩⟩
    refine andC_f ?_
    and_intros
    refine okv (a := .int xs.length) (M := M) rfl ?_
    and_intros
    have : ((xs.length : Int) == 2) = false := by
      rw [beq_eq_false_iff_ne]
      omega
    exact okv opEq_int ⟨by rw [this], rfl, rfl⟩
  obtain ⟨r, M', e, rfl, rfl⟩ := e.eq
  exact e
theorem pair2 (hx : f_is_whole [.val x] M = .ok (.bl pa) M) (hy : f_is_whole [.val y] M = .ok (.bl pb) M) : f_is_pair [.val (.tup [x, y])] M = .ok (.bl (pa && pb)) M := by
  have e : OkR (f_is_pair [.val (.tup [x, y])] M) fun r M' => r = .bl (pa && pb) ∧ M' = M := by
    refine ok_fn (ok_ret (andC_t ?_))
    and_intros
    refine ⟨rfl, okv is_list_tup ⟨rfl, ?_⟩⟩
    refine andC_t ?_
    and_intros
    refine okv (a := .int 2) (M := M) rfl ?_
    and_intros
    refine okv (a := .bl true) (M := M) rfl ⟨rfl, ?_⟩
    refine ok_andC ?_
    and_intros
    refine okv (a := x) (M := M) rfl ?_
    and_intros
    refine ⟨rfl, okv hx ⟨_, rfl, ?_⟩⟩
    cases pa with
    | false => rw [if_neg (by decide)]; exact ⟨by simp, rfl⟩
    | true =>
      rw [if_pos rfl]
      and_intros
      refine okv (a := y) (M := M) rfl ?_
      and_intros
      exact ⟨rfl, okv hy ⟨by simp, rfl⟩⟩
  obtain ⟨r, M', e, rfl, rfl⟩ := e.eq
  exact e
end
end K01
end

section
set_option Elab.async false
set_option linter.all false
set_option autoImplicit false
set_option maxRecDepth 100000
set_option maxHeartbeats 4000000
/-! k01, the plain side: odd things. -/
namespace K01
open PySem AM L2 AP
local macro_rules | `(tactic| and_intros) => `(tactic| repeat (first | (with_reducible first | refine ok_seq ?_ | refine ok_ret ?_ | refine ok_set ?_ | refine ok_drop ?_ | refine ok_con ?_ | refine ok_nil ?_ | refine ok_cons ?_ | refine ok_args ?_ | refine ok_bin ?_ | refine ok_un ?_ | refine ok_tru ?_ | refine ok_notT ?_ | refine ok_cmp ?_ | refine ok_par ?_ | refine ok_for ?_ | refine ok_skip ?_ | refine ok_notC ?_ | refine ok_ifC ?_ | refine ok_call ?_) | ((with_reducible apply ok_var); exact rfl)))
/-! ### odd steps -/
section
variable {F s n P b : Nat} {M M' M0 : AH} {v : AV}
def NoSt (F s n P : Nat) (M : AH) (v : AV) : Prop := ∀ M', FrX (XO F s n) M M' → f_is_step [.val v, .val (.int P)] M' = .ok (.bl false) M'
theorem NoSt.fr (h : NoSt F s n P M v) (f : FrX (XO F s n) M M') : NoSt F s n P M' v := fun M2 g => h M2 (f.trans g)
/-- v is of type t, whatever is written at F, s, n -/
def TyX (F s n : Nat) (M : AH) (v : AV) (t : AT) : Prop := ∀ M', FrX (XO F s n) M M' → tyA fns ws M' v = some t
theorem TyX.fr {t : AT} (h : TyX F s n M v t) (f : FrX (XO F s n) M M') : TyX F s n M' v t := fun M2 g => h M2 (f.trans g)
def BPl (F s n P : Nat) (v : AV) (M : AH) : Prop := ∀ M', FrX (XO F s n) M M' → f_is_place [.val v, .val (.int P)] M' = .ok (.bl false) M'
def BPr (F s n : Nat) (v : AV) (M : AH) : Prop := ∀ M', FrX (XO F s n) M M' → f_is_pair [.val v] M' = .ok (.bl false) M'
def BPo (F s n : Nat) (v : AV) (M : AH) : Prop := ∀ M', FrX (XO F s n) M M' → f_is_positive [.val v] M' = .ok (.bl false) M'
def BWh (F s n : Nat) (v : AV) (M : AH) : Prop := ∀ M', FrX (XO F s n) M M' → f_is_whole [.val v] M' = .ok (.bl false) M'
theorem bpl_ty {t : AT} (h : TyX F s n M v t) (w : wholeT t = false) : BPl F s n P v M := fun M' f => ispl_not (h M' f) w
theorem bpo_ty {t : AT} (h : TyX F s n M v t) (w : wholeT t = false) : BPo F s n v M := fun M' f => isp_not (h M' f) w
theorem bwh_ty {t : AT} (h : TyX F s n M v t) (w : wholeT t = false) : BWh F s n v M := fun M' f => isw_not (h M' f) w
theorem bpr_ty {t : AT} (h : TyX F s n M v t) (w : isCls ws t LT = some false) : BPr F s n v M := fun M' f => pair_not (h M' f) w
theorem bpl_int {x : Int} (h : ¬ (0 ≤ x ∧ x < P)) : BPl F s n P (.int x) M := fun M' _ => by
  rw [ispl_int]
  have : (decide (0 ≤ x) && decide (x < (P : Int))) = false := by
    by_cases q : 0 ≤ x
    · have : ¬ x < P := fun z => h ⟨q, z⟩
      simp [this]
    · simp [q]
  rw [this]
theorem bpo_int {x : Int} (h : ¬ 1 ≤ x) : BPo F s n (.int x) M := fun M' _ => isp_z h
theorem ty_dr : TyX F s n M (.glo "_law_draw") .fn := fun M' f => ty_draw M' Grw.refl
theorem ty_l {d : Nat} {xs : List AV} (h : M[d]? = some (.lst xs)) (hd : ¬ XO F s n d) : TyX F s n M (.ref d) .lst := lst_frx h hd
theorem ty_d {d : Nat} {xs : List (AV × AV)} (h : M[d]? = some (.dct xs)) (hd : ¬ XO F s n d) : TyX F s n M (.ref d) .dct := dct_frx h hd
theorem pl_ex {x : Int} : ∃ b, f_is_place [.val (.int x), .val (.int P)] M = .ok (.bl b) M := ⟨_, ispl_int⟩
/-! a step with something odd -/
variable {st : Stp}
theorem pr_av {M : AH} : f_is_pair [.val st.am] M = .ok (.bl true) M := pair2 (x := .int st.x) (y := .int st.y) isw_int isw_int
theorem no0 (h : BPl F s n P v M) : NoSt F s n P M (.tup [v, .int st.b, st.am, .int st.t, .int st.c]) := fun M' f => by
  rw [step5 (h M' f) ispl_int pr_av isp_int isw_int]
  simp
theorem no1 (h : BPl F s n P v M) : NoSt F s n P M (.tup [.int st.a, v, st.am, .int st.t, .int st.c]) := fun M' f => by
  rw [step5 ispl_int (h M' f) pr_av isp_int isw_int]
  simp
theorem no2 (h : BPr F s n v M) : NoSt F s n P M (.tup [.int st.a, .int st.b, v, .int st.t, .int st.c]) := fun M' f => by
  rw [step5 ispl_int ispl_int (h M' f) isp_int isw_int]
  simp
theorem no3 (h : BPo F s n v M) : NoSt F s n P M (.tup [.int st.a, .int st.b, st.am, v, .int st.c]) := fun M' f => by
  rw [step5 ispl_int ispl_int pr_av (h M' f) isw_int]
  simp
theorem no4 (h : BWh F s n v M) : NoSt F s n P M (.tup [.int st.a, .int st.b, st.am, .int st.t, v]) := fun M' f => by
  rw [step5 ispl_int ispl_int pr_av isp_int (h M' f)]
  simp
theorem no_ty {t : AT} (h : TyX F s n M v t) (w : isCls ws t LT = some false) : NoSt F s n P M v := fun M' f => is_step_no (h M' f) w
/-! lists of odd things -/
/-- a list of one thing for each odd one -/
theorem odd_lc {r : CA} {te : CE} {vs : AM.Loc} {Q : AV → AH → Prop} {B : AV → AH → Prop} {f : AV → AV} (hB : ∀ v M M', B v M → Grw M M' → B v M') (h : OkR (r vs M) fun as M1 => Grw M M1 ∧ as.length ≤ 8 ∧ ∀ v ∈ as, B v M1)
    (hf : ∀ (v : AV) (M' : AH), OkR (te ((wipeL vs [8]).set 8 (some (.val v))) M') fun x M2 => x = f v ∧ M2 = M')
    (k : ∀ (e : Nat) (as : List AV) (M2 : AH), Grw M M2 → M2[e]? = some (.lst (as.map f)) → as.length ≤ 8 → (∀ v ∈ as, B v M2) → Q (.ref e) M2) :
    OkR (lcC [8] (valI (argsC lstA r)) (nameG 8) yesT te vs M) Q := by
  refine ok_lc (OkR.bind (ok_args (h.imp ?_)))
  rintro as M1 ⟨g1, hl, hb⟩
  refine ok_new (by omega) fun d M2 g2 _ _ gd => ?_
  have I : Its (d + 1) (d + 1) (.ref d) as M2 := .inr ⟨d, rfl, by omega, by omega, gd⟩
  obtain ⟨it, hw, wk⟩ := I.walk
  have ei : iterA (.ref d) M2 = .ok it M2 := by
    unfold iterA
    rw [hw]
  refine okv ei ?_
  have A2 : ∀ ys : List AV, All2 (fun x y => y = f x) ys (ys.map f) := by
    intro ys
    induction ys with
    | nil => exact .nil
    | cons y ys ih => exact .cons rfl ih
  refine ok_lcG (R := fun x y => y = f x) (fun M' g => wk.ok _ (I.ext g)) (by rw [wk.items]; exact A2 as) (by simp; omega) ?_ ?_
  · rintro x y M' rfl g
    exact ⟨_, rfl, (hf x M').imp fun r M3 ⟨e1, e2⟩ => ⟨e1, by rw [e2]; exact Grw.refl⟩⟩
  · intro M' g hd
    exact k _ as M' ((g1.trans g2).trans g) hd hl fun v hv => hB v _ _ (hb v hv) (g2.trans g)
theorem Fr.bx {B : AV → AH → Prop} (h : ∀ v M M', B v M → FrX (XO F s n) M M' → B v M') : ∀ v M M', B v M → Grw M M' → B v M' := fun v M M' b g => h v M M' b g.frX
/-- what odd_steps has found, b things -/
structure Fd (F s n P b : Nat) (M0 M : AH) : Prop where
  G : Grw M0 M
  l0 : M0.length ≤ F
  h : ∃ xs, M[F]? = some (.lst xs) ∧ xs.length ≤ b ∧ ∀ v ∈ xs, NoSt F s n P M v
theorem Fd.ext (U : Fd F s n P b M0 M) (g : Grw M M') : Fd F s n P b M0 M' := by
  obtain ⟨xs, h1, h2, h3⟩ := U.h
  exact ⟨U.G.trans g, U.l0, xs, g.get _ _ h1, h2, fun v hv => (h3 v hv).fr g.frX⟩
theorem Fd.put {xs ys : List AV} (U : Fd F s n P b M0 M) (h1 : M[F]? = some (.lst xs)) (h2 : xs.length ≤ b) (h3 : ∀ v ∈ xs, NoSt F s n P M v) (hy : ∀ v ∈ ys, NoSt F s n P M v) (hl : ys.length ≤ 8) : Fd F s n P (b + 8) M0 (M.set F (.lst (xs ++ ys))) := by
  have f : FrX (XO F s n) M (M.set F (.lst (xs ++ ys))) := frX_set (.inl rfl)
  refine ⟨U.G.fresh U.l0, U.l0, xs ++ ys, set_get h1, by simp; omega, fun v hv => ?_⟩
  rcases List.mem_append.mp hv with hv | hv
  · exact (h3 v hv).fr f
  · exact (hy v hv).fr f
theorem ext_fd {c : CE} {vs : AM.Loc} {N : AM.Loc → AH → Prop} {T : AV → AH → Prop} (U : Fd F s n P b M0 M) (hb : b ≤ 100) (hv : vs[7]? = some (some (.val (.ref F))))
    (h : OkR (c vs M) fun r M2 => Grw M M2 ∧ ∃ e ys, r = .ref e ∧ M2[e]? = some (.lst ys) ∧ ys.length ≤ 8 ∧ ∀ v ∈ ys, NoSt F s n P M2 v) (k : ∀ M', Fd F s n P (b + 8) M0 M' → N vs M') :
    OkS (dropC (methK (onT "list" mExtend) (varC 7) (consA c nilA)) vs M) N T := by
  obtain ⟨xs, h1, _⟩ := U.h
  refine ok_drop (ok_meth (ok_var (a := .ref F) hv ⟨_, kind_lst h1, ok_cons (h.imp ?_)⟩))
  rintro r M2 ⟨g, e, ys, rfl, ge, hl, hy⟩
  obtain ⟨xs, h1, h2, h3⟩ := (U.ext g).h
  have e5 : mExtend (.ref F) [.ref e] M2 = .ok .non (M2.set F (.lst (xs ++ ys))) := by
    simp only [mExtend, h1, ge]
    rw [if_pos (by unfold sizeLine; omega)]
  exact ok_nil (okv e5 (k _ ((U.ext g).put h1 h2 h3 hy hl)))
end
end K01
end

section
set_option Elab.async false
set_option linter.all false
set_option autoImplicit false
set_option maxRecDepth 100000
set_option maxHeartbeats 4000000
/-! k01, the plain side: odd_steps. -/
namespace K01
open PySem AM L2 AP
local macro_rules | `(tactic| and_intros) => `(tactic| repeat (first | (with_reducible first | refine ok_seq ?_ | refine ok_ret ?_ | refine ok_set ?_ | refine ok_drop ?_ | refine ok_con ?_ | refine ok_nil ?_ | refine ok_cons ?_ | refine ok_args ?_ | refine ok_bin ?_ | refine ok_un ?_ | refine ok_tru ?_ | refine ok_notT ?_ | refine ok_cmp ?_ | refine ok_par ?_ | refine ok_for ?_ | refine ok_skip ?_ | refine ok_notC ?_ | refine ok_ifC ?_ | refine ok_call ?_) | ((with_reducible apply ok_var); exact rfl)))
section
variable {F s n P b : Nat} {M M' M0 : AH} {v : AV} {st : Stp}
theorem Fd.mono {b' : Nat} (U : Fd F s n P b M0 M) (h : b ≤ b') : Fd F s n P b' M0 M := by
  obtain ⟨xs, h1, h2, h3⟩ := U.h
  exact ⟨U.G, U.l0, xs, h1, by omega, h3⟩
theorem Fd.put1 (U : Fd F s n P b M0 M) (hb : b ≤ 100) (hy : NoSt F s n P M v) : ∃ ob, mAppend (.ref F) [v] M = .ok .non (M.set F ob) ∧ Fd F s n P (b + 1) M0 (M.set F ob) := by
  obtain ⟨xs, h1, h2, h3⟩ := U.h
  have f : FrX (XO F s n) M (M.set F (.lst (xs ++ [v]))) := frX_set (.inl rfl)
  refine ⟨_, append_ok h1 (by unfold sizeLine; omega), U.G.fresh U.l0, U.l0, xs ++ [v], set_get h1, by simp; omega, fun u hu => ?_⟩
  rcases List.mem_append.mp hu with hu | hu
  · exact (h3 u hu).fr f
  · rw [List.mem_singleton.mp hu]; exact hy.fr f
theorem Fd.lt (U : Fd F s n P b M0 M) : F < M.length := by
  obtain ⟨xs, h1, _⟩ := U.h
  exact get_lt h1
/-- odd amounts -/
theorem for_fd {r : CA} {z0 z1 z4 z8 : Option SV} {N : AM.Loc → AH → Prop} {T : AV → AH → Prop} (U : Fd F s n P b M0 M) (hb : b ≤ 50)
    (h : OkR (r [z0, z1, some (.val (.int st.a)), some (.val (.int st.b)), z4, some (.val (.int st.t)), some (.val (.int st.c)), some (.val (.ref F)), z8] M) fun as M1 => Grw M M1 ∧ as.length ≤ 8 ∧ ∀ v ∈ as, BPr F s n v M1)
    (k : ∀ (q8 : Option SV) (M' : AH), Fd F s n P (b + 8) M0 M' → N [z0, z1, some (.val (.int st.a)), some (.val (.int st.b)), z4, some (.val (.int st.t)), some (.val (.int st.c)), some (.val (.ref F)), q8] M') :
    OkS (forC (valI (argsC lstA r)) (nameG 8)
  (dropC (methK (onT "list" mAppend) (varC 7) (consA (argsC tupA (consA (varC 2) (consA (varC 3) (consA (varC 8) (consA (varC 5) (consA (varC 6) nilA)))))) nilA))) [z0, z1, some (.val (.int st.a)), some (.val (.int st.b)), z4, some (.val (.int st.t)), some (.val (.int st.c)), some (.val (.ref F)), z8] M) N T := by
  refine ok_for (OkR.bind (ok_args (h.imp ?_)))
  rintro as M1 ⟨g1, hl, hq⟩
  have U1 := U.ext g1
  have lF := U1.lt
  refine ok_new (by omega) fun d M2 g2 ld _ gd => ?_
  have I : Its (d + 1) (d + 1) (.ref d) as M2 := .inr ⟨d, rfl, by omega, by omega, gd⟩
  obtain ⟨it, hw, wk⟩ := I.walk
  have ei : iterA (.ref d) M2 = .ok it M2 := by
    unfold iterA
    rw [hw]
  refine okv ei ?_
  rw [wk.items]
  refine ok_loop (T := T) (N := N) (fun rest vs' M' => ∃ q8 : Option SV, rest.length ≤ 8 ∧ Fd F s n P (b + (8 - rest.length)) M0 M' ∧ M'[d]? = some (.lst as) ∧ (∀ v ∈ rest, BPr F s n v M') ∧ vs' = [z0, z1, some (.val (.int st.a)), some (.val (.int st.b)), z4, some (.val (.int st.t)), some (.val (.int st.c)), some (.val (.ref F)), q8])
    (fun rest vs' M' ⟨_, _, _, hd, _⟩ => wk.ok _ (.inr ⟨d, rfl, by omega, by omega, hd⟩)) ?step ?fin _ _ _ ⟨z8, hl, (U1.ext g2).mono (by omega), gd, fun v hv M' f => hq v hv M' (g2.frX.trans f), rfl⟩
  case step =>
    rintro x rest vs' M' ⟨q8, hr, U', hd, hx, rfl⟩
    simp only [List.length_cons] at hr
    obtain ⟨xs, h1, _⟩ := U'.h
    refine ok_turn (ok_drop (ok_meth (ok_var (a := .ref F) rfl ⟨_, kind_lst h1, ?_⟩)))
    refine ok_cons (ok_args (ok_cons (ok_var (a := .int st.a) rfl (ok_cons (ok_var (a := .int st.b) rfl (ok_cons (ok_var (a := x) rfl (ok_cons (ok_var (a := .int st.t) rfl (ok_cons (ok_var (a := .int st.c) rfl (ok_nil (ok_tup (by simp) (ok_nil ?_))))))))))))))
    obtain ⟨ob, e, U2⟩ := U'.put1 (v := .tup [.int st.a, .int st.b, x, .int st.t, .int st.c]) (by simp only [List.length_cons]; omega) (no2 (hx x (List.mem_cons_self ..)))
    refine okv e ⟨_, by omega, U2.mono (by simp only [List.length_cons]; omega), by rw [set_ne (by omega)]; exact hd, fun u hu M2 f => hx u (List.mem_cons_of_mem _ hu) M2 ((frX_set (.inl rfl)).trans f), rfl⟩
  case fin =>
    rintro vs' M' ⟨q8, hr, U', hd, hx, rfl⟩
    exact k q8 M' U'
theorem odd_steps_ok (lts : s < M.length) (ltn : n < M.length) : OkR (f_law_odd_steps [.val (.int P), .val st.av] M) fun r M' => ∃ (i : Nat) (xs : List AV), r = .ref i ∧ M.length ≤ i ∧ M'[i]? = some (.lst xs) ∧ xs.length ≤ 90 ∧ Grw M M' ∧ ∀ v ∈ xs, ∀ M2, Fr s n M' M2 → f_is_step [.val v, .val (.int P)] M2 = .ok (.bl false) M2 := by
  unfold f_law_odd_steps c_law_odd_steps
  refine ok_fn (ok_seq (ok_asg (ok_var (a := st.av) rfl (ok_tg5 (x := .int st.a) (y := .int st.b) (z := st.am) (u := .int st.t) (v := .int st.c) ?_))))
  refine ok_seq (ok_set (ok_args (ok_cons (ok_con (ok_cons (ok_con (ok_cons (ok_con (ok_cons (ok_args (ok_nil (ok_tup (by simp) (ok_cons ?_)))))))))))))
  refine ok_newD fun d M1 g1 ld ld2 gd => ?_
  refine ok_cons (ok_slice (ok_var (a := st.av) rfl (ok_no (ok_some (ok_con ⟨_, rfl, ?_⟩)))))
  have e1 : opSl st.av none (some ((4 : Nat) : Int)) M1 = .ok (.tup [.int st.a, .int st.b, st.am, .int st.t]) M1 := by
    simp only [opSl, Stp.av, cut_to]
    rfl
  refine okv e1 (ok_cons (ok_bin (ok_var (a := st.av) rfl (ok_args (ok_cons (ok_con (ok_nil (ok_tup (by simp) ?_))))))))
  have e2 : opAdd st.av (.tup [.int 0]) M1 = .ok (.tup [.int st.a, .int st.b, st.am, .int st.t, .int st.c, .int 0]) M1 := rfl
  refine okv e2 (ok_cons (ok_con (ok_cons (ok_con (ok_cons (ok_args (ok_cons (ok_var (a := .int P) rfl (ok_cons (ok_var (a := .int st.b) rfl (ok_cons (ok_var (a := st.am) rfl (ok_cons (ok_var (a := .int st.t) rfl (ok_cons (ok_var (a := .int st.c) rfl (ok_nil (ok_tup (by simp) (ok_nil (ok_new (by simp) fun F M2 g2 lF lF2 gF => ?_))))))))))))))))))))
  have U : Fd F s n P 10 M M2 := by
    refine ⟨g1.trans g2, by omega, _, gF, by simp, fun v hv => ?_⟩
    simp only [List.mem_cons, List.not_mem_nil, or_false] at hv
    rcases hv with rfl | rfl | rfl | rfl | rfl | rfl | rfl | rfl | rfl | rfl
    · exact no_ty (t := .non) (fun _ _ => rfl) rfl
    · exact no_ty (t := .int) (fun _ _ => rfl) rfl
    · exact no_ty (t := .str) (fun _ _ => rfl) rfl
    · exact fun M' _ => step_len (by simp)
    · exact no_ty (ty_d (g2.get _ _ gd) (by rintro (e | e | e) <;> omega)) rfl
    · exact fun M' _ => step_len (by simp)
    · exact fun M' _ => step_len (by simp)
    · exact no_ty (t := .bl) (fun _ _ => rfl) rfl
    · exact no_ty ty_dr rfl
    · exact no0 (bpl_int (by omega))
  clear gF
  -- the first place
  refine ok_seq (ext_fd U (by omega) rfl (odd_lc (B := BPl F s n P) (f := fun v => .tup [v, .int st.b, st.am, .int st.t, .int st.c]) (fun v M M' b g M2 f => b M2 (g.frX.trans f)) ?_ ?_ ?_) ?_)
  · refine ok_cons (ok_neg (ok_cons (ok_con (ok_cons (ok_con (ok_cons (ok_con (ok_cons (ok_args (ok_cons (ok_con (ok_nil (ok_tup (by simp) (ok_cons (ok_con (ok_nil ⟨Grw.refl, by simp, fun v hv => ?_⟩))))))))))))))))
    simp only [List.mem_cons, List.not_mem_nil, or_false] at hv
    rcases hv with rfl | rfl | rfl | rfl | rfl | rfl
    · exact bpl_int (by omega)
    · exact bpl_ty (t := .non) (fun _ _ => rfl) rfl
    · exact bpl_ty (t := .bl) (fun _ _ => rfl) rfl
    · exact bpl_ty (t := .str) (fun _ _ => rfl) rfl
    · exact bpl_ty (t := .tup) (fun _ _ => rfl) rfl
    · exact bpl_ty ty_dr rfl
  · exact fun v M' => ok_args (ok_cons (ok_var (a := v) rfl (ok_cons (ok_var (a := .int st.b) rfl (ok_cons (ok_var (a := st.am) rfl (ok_cons (ok_var (a := .int st.t) rfl (ok_cons (ok_var (a := .int st.c) rfl (ok_nil (ok_tup (by simp) ⟨rfl, rfl⟩))))))))))))
  · intro e as M3 g ge hl hb
    refine ⟨g, e, _, rfl, ge, by simpa using hl, fun v hv => ?_⟩
    obtain ⟨w, hw, rfl⟩ := List.mem_map.mp hv
    exact no0 (hb w hw)
  clear U
  intro M3 U
  -- the other place
  refine ok_seq (ext_fd U (by omega) rfl (odd_lc (B := BPl F s n P) (f := fun v => .tup [.int st.a, v, st.am, .int st.t, .int st.c]) (fun v M M' b g M2 f => b M2 (g.frX.trans f)) ?_ ?_ ?_) ?_)
  · refine ok_cons (ok_neg (ok_cons (ok_var (a := .int P) rfl (ok_cons (ok_con (ok_cons (ok_con (ok_cons (ok_con (ok_cons (ok_args (ok_cons (ok_con (ok_nil (ok_new (by simp) fun e M4 g4 le _ ge => ok_nil ⟨g4, by simp, fun v hv => ?_⟩)))))))))))))))
    have lF3 := U.lt
    have lM := U.G.len
    simp only [List.mem_cons, List.not_mem_nil, or_false] at hv
    rcases hv with rfl | rfl | rfl | rfl | rfl | rfl
    · exact bpl_int (by omega)
    · exact bpl_int (by omega)
    · exact bpl_ty (t := .non) (fun _ _ => rfl) rfl
    · exact bpl_ty (t := .bl) (fun _ _ => rfl) rfl
    · exact bpl_ty (t := .str) (fun _ _ => rfl) rfl
    · exact bpl_ty (ty_l ge (by rintro (e | e | e) <;> omega)) rfl
  · exact fun v M' => ok_args (ok_cons (ok_var (a := .int st.a) rfl (ok_cons (ok_var (a := v) rfl (ok_cons (ok_var (a := st.am) rfl (ok_cons (ok_var (a := .int st.t) rfl (ok_cons (ok_var (a := .int st.c) rfl (ok_nil (ok_tup (by simp) ⟨rfl, rfl⟩))))))))))))
  · intro e as M3 g ge hl hb
    refine ⟨g, e, _, rfl, ge, by simpa using hl, fun v hv => ?_⟩
    obtain ⟨w, hw, rfl⟩ := List.mem_map.mp hv
    exact no1 (hb w hw)
  clear U
  intro M4 U
  -- amounts
  refine ok_seq (for_fd (st := st) U (by omega) ?_ ?_)
  · refine ok_cons (ok_con (ok_cons (ok_con (ok_cons (ok_args (ok_cons (ok_con (ok_nil (ok_tup (by simp) ?_)))))))))
    refine ok_cons (ok_args (ok_cons (ok_con (ok_cons (ok_con (ok_cons (ok_con (ok_nil (ok_tup (by simp) ?_)))))))))
    refine ok_cons (ok_args (ok_cons (ok_con (ok_cons (ok_con (ok_nil (ok_tup (by simp) ?_)))))))
    refine ok_cons (ok_args (ok_cons (ok_con (ok_cons (ok_con (ok_nil (ok_tup (by simp) ?_)))))))
    refine ok_cons (ok_con (ok_cons ?_))
    refine ok_newD fun d5 M5 g5 ld5 _ gd5 => ok_nil ⟨g5, by simp, fun v hv => ?_⟩
    have lF3 := U.lt
    have lM := U.G.len
    simp only [List.mem_cons, List.not_mem_nil, or_false] at hv
    rcases hv with rfl | rfl | rfl | rfl | rfl | rfl | rfl | rfl
    · exact bpr_ty (t := .non) (fun _ _ => rfl) rfl
    · exact bpr_ty (t := .int) (fun _ _ => rfl) rfl
    · exact fun M' _ => pair_len (by simp)
    · exact fun M' _ => pair_len (by simp)
    · exact fun M' _ => pair2 isw_bl isw_int
    · exact fun M' _ => pair2 isw_int (isw_not (t := .non) rfl rfl)
    · exact bpr_ty (t := .str) (fun _ _ => rfl) rfl
    · exact bpr_ty (ty_d gd5 (by rintro (e | e | e) <;> omega)) rfl
  clear U
  intro q8 M5 U
  -- ticks
  refine ok_seq (ext_fd U (by omega) rfl (odd_lc (B := BPo F s n) (f := fun v => .tup [.int st.a, .int st.b, st.am, v, .int st.c]) (fun v M M' b g M2 f => b M2 (g.frX.trans f)) ?_ ?_ ?_) ?_)
  · refine ok_cons (ok_con (ok_cons (ok_neg (ok_cons (ok_con (ok_cons (ok_con (ok_cons (ok_con (ok_cons (ok_args (ok_cons (ok_con (ok_nil (ok_tup (by simp) (ok_nil ⟨Grw.refl, by simp, fun v hv => ?_⟩))))))))))))))))
    simp only [List.mem_cons, List.not_mem_nil, or_false] at hv
    rcases hv with rfl | rfl | rfl | rfl | rfl | rfl
    · exact bpo_int (by decide)
    · exact bpo_int (by decide)
    · exact bpo_ty (t := .non) (fun _ _ => rfl) rfl
    · exact bpo_ty (t := .bl) (fun _ _ => rfl) rfl
    · exact bpo_ty (t := .str) (fun _ _ => rfl) rfl
    · exact bpo_ty (t := .tup) (fun _ _ => rfl) rfl
  · exact fun v M' => ok_args (ok_cons (ok_var (a := .int st.a) rfl (ok_cons (ok_var (a := .int st.b) rfl (ok_cons (ok_var (a := st.am) rfl (ok_cons (ok_var (a := v) rfl (ok_cons (ok_var (a := .int st.c) rfl (ok_nil (ok_tup (by simp) ⟨rfl, rfl⟩))))))))))))
  · intro e as M3 g ge hl hb
    refine ⟨g, e, _, rfl, ge, by simpa using hl, fun v hv => ?_⟩
    obtain ⟨w, hw, rfl⟩ := List.mem_map.mp hv
    exact no3 (hb w hw)
  clear U
  intro M6 U
  -- the change
  refine ok_ret (ok_bin (ok_var (a := .ref F) rfl ?_))
  refine odd_lc (B := BWh F s n) (f := fun v => .tup [.int st.a, .int st.b, st.am, .int st.t, v]) (fun v M M' b g M2 f => b M2 (g.frX.trans f)) ?_ ?_ ?_
  · refine ok_cons (ok_con (ok_cons (ok_con (ok_cons (ok_con (ok_cons (ok_args (ok_cons (ok_con (ok_nil (ok_tup (by simp) (ok_cons (ok_args (ok_nil (ok_new (by simp) fun e M4 g4 le _ ge => ok_cons (ok_con (ok_nil ⟨g4, by simp, fun v hv => ?_⟩)))))))))))))))))
    have lF3 := U.lt
    have lM := U.G.len
    simp only [List.mem_cons, List.not_mem_nil, or_false] at hv
    rcases hv with rfl | rfl | rfl | rfl | rfl | rfl
    · exact bwh_ty (t := .non) (fun _ _ => rfl) rfl
    · exact bwh_ty (t := .bl) (fun _ _ => rfl) rfl
    · exact bwh_ty (t := .str) (fun _ _ => rfl) rfl
    · exact bwh_ty (t := .tup) (fun _ _ => rfl) rfl
    · exact bwh_ty (ty_l ge (by rintro (e | e | e) <;> omega)) rfl
    · exact bwh_ty ty_dr rfl
  · exact fun v M' => ok_args (ok_cons (ok_var (a := .int st.a) rfl (ok_cons (ok_var (a := .int st.b) rfl (ok_cons (ok_var (a := st.am) rfl (ok_cons (ok_var (a := .int st.t) rfl (ok_cons (ok_var (a := v) rfl (ok_nil (ok_tup (by simp) ⟨rfl, rfl⟩))))))))))))
  · intro e as M7 g ge hl hb
    have U7 := U.ext g
    obtain ⟨xs, h1, h2, h3⟩ := U7.h
    have lM := U7.G.len
    refine okv (add_ok h1 ge (by simp; omega)) ⟨_, _, rfl, lM, by simp; rfl, by simp; omega, U7.G.trans Grw.app, fun v hv M2 f => ?_⟩
    have f2 : FrX (XO F s n) M7 M2 := Grw.app.frX.trans (frx_of f)
    rcases List.mem_append.mp hv with hv | hv
    · exact h3 v hv M2 f2
    · obtain ⟨w, hw, rfl⟩ := List.mem_map.mp hv
      exact no4 (hb w hw) M2 f2
end
end K01
end

section
set_option Elab.async false
set_option linter.all false
set_option autoImplicit false
set_option maxRecDepth 100000
set_option maxHeartbeats 4000000
/-! k01, the plain side: refused_right, the turns. -/
namespace K01
open PySem AM L2 AP
local macro_rules | `(tactic| and_intros) => `(tactic| repeat (first | (with_reducible first | refine ok_seq ?_ | refine ok_ret ?_ | refine ok_set ?_ | refine ok_drop ?_ | refine ok_con ?_ | refine ok_nil ?_ | refine ok_cons ?_ | refine ok_args ?_ | refine ok_bin ?_ | refine ok_un ?_ | refine ok_tru ?_ | refine ok_notT ?_ | refine ok_cmp ?_ | refine ok_par ?_ | refine ok_for ?_ | refine ok_skip ?_ | refine ok_notC ?_ | refine ok_ifC ?_ | refine ok_call ?_) | ((with_reducible apply ok_var); exact rfl)))
section
variable {s n c P L K : Nat} {ss : List Stp} {M M' : AH}
def VsR (s P L K : Nat) (vs : AM.Loc) : Prop := ∃ q3 q5 q6 q7 q8 : Option SV, vs = [some (.val (.ref s)), some (.val (.int P)), some (.val (.ref L)), q3, some (.val (.int K)), q5, q6, q7, q8]
/-- steps of a turn, then one that is none -/
theorem fb_steps {s' n' : Nat} {a : AV} {good : List Stp} {tail : List AV} {res : AV} {F : List AV → AH → R AV} (hF : ∀ v M2, F [v] M2 = f_is_step [.val v, .val (.int P)] M2) (I : Its s' n' a (good.map Stp.av ++ tail) M) (nd : good.Nodup) (hl : good.length ≤ 100) (hg : ∀ st ∈ good, stepB P st = true) (Tl : Tail Stp.av F good M tail res) :
    OkR (f_first_bad [.val a, .clo 5 F] M) fun r M2 => r = res ∧ Grw M M2 := by
  have hall : ∀ ts : List Stp, (∀ st ∈ ts, st ∈ good) → All2 (fun (v : AV) (st : Stp) => v = st.av ∧ st ∈ good) (ts.map Stp.av) ts := by
    intro ts
    induction ts with
    | nil => exact fun _ => .nil
    | cons t ts ih => exact fun h => .cons ⟨rfl, h t (List.mem_cons_self ..)⟩ (ih fun st hs => h st (List.mem_cons_of_mem _ hs))
  refine fb_gen (F := F) (k := 5) (res := res) (R := fun v st => v = st.av ∧ st ∈ good) keyS I (hall good fun _ h => h) nd (by omega) (by decide) ?_ ?_ Tl
  · rintro v st M'' ⟨rfl, hs⟩ g''
    rw [hF]
    refine (is_step_ok (s := 0) (n := 1) StpIs.av).imp fun r M2 h => ⟨?_, h.2⟩
    rw [h.1, hg st hs]
  · rintro v st M'' ⟨rfl, hs⟩ g''
    exact as_av (s := 0) (n := 1) like_av
theorem turnA {v : AV} {q3 q6 q7 q8 : Option SV} {T : AV → AH → Prop} (R : Trn s n P L ss M) (hK : K ≤ ss.length) (h : ∀ M', Grw M M' → f_is_step [.val v, .val (.int P)] M' = .ok (.bl false) M') :
    OkS ((seqC (asgC (bin2 opAdd (bin2 opAdd (sliceC (varC 2) noO (someO (varC 4))) (argsC lstA (consA (varC 5) (consA (conC .non) nilA)))) (sliceC (varC 2) (someO (varC 4)) noO)) (nameG 6))
  (ifS (cmpT (opNeY fns ws []) (callX 1 f_law_tried (consL 35 0 [1, 6] (makeC "Web" 3 f_Web_init (consA (varC 0) (consA (varC 1) nilA))) nilX)) (argsC tupA (consA (conC (.str "steps")) (consA (varC 4) nilA))))
  (retC (conC (.bl false)))
  skipC)) [some (.val (.ref s)), some (.val (.int P)), some (.val (.ref L)), q3, some (.val (.int K)), some (.val v), q6, q7, q8] M) (fun vs2 M2 => VsR s P L K vs2 ∧ Grw M M2) T := by
  have hl := R.hl
  have hP1 := R.p1
  refine ok_seq (ok_set (ok_bin (ok_bin (ok_slice (ok_var (a := .ref L) rfl (ok_no (ok_some (ok_var (a := .int K) rfl ⟨_, rfl, ?_⟩))))))))
  have e2 : opSl (.ref L) none (some (K : Int)) M = .ok (.ref M.length) (M ++ [.lst ((ss.take K).map Stp.av)]) := by
    simp only [opSl, R.gL, cut_to, newL]
    rw [if_pos (by simp; unfold sizeLine; omega), List.map_take]
  refine okv e2 ?_
  have gT : (M ++ [AO.lst ((ss.take K).map Stp.av)])[M.length]? = some (.lst ((ss.take K).map Stp.av)) := by simp
  have g2 : Grw M (M ++ [AO.lst ((ss.take K).map Stp.av)]) := Grw.app
  generalize M ++ [AO.lst ((ss.take K).map Stp.av)] = M2 at gT g2
  have hKl : (ss.take K).length = K := by rw [List.length_take]; omega
  have hdl : (ss.drop K).length ≤ 20 := by rw [List.length_drop]; omega
  refine ok_args (ok_cons (ok_var (a := v) rfl (ok_cons (ok_con (ok_nil (ok_new (by simp) fun e M3 g3 _ _ ge => ?_))))))
  refine okv (add_ok (g3.get _ _ gT) ge (by simp; omega)) ?_
  have gU : (M3 ++ [AO.lst ((ss.take K).map Stp.av ++ [v, .non])])[M3.length]? = some (.lst ((ss.take K).map Stp.av ++ [v, .non])) := by simp
  have g4 : Grw M3 (M3 ++ [AO.lst ((ss.take K).map Stp.av ++ [v, .non])]) := Grw.app
  generalize M3 ++ [AO.lst ((ss.take K).map Stp.av ++ [v, .non])] = M4 at gU g4
  have gg4 := (g2.trans g3).trans g4
  refine ok_slice (ok_var (a := .ref L) rfl (ok_some (ok_var (a := .int K) rfl ⟨_, rfl, ok_no ?_⟩)))
  have e5 : opSl (.ref L) (some (K : Int)) none M4 = .ok (.ref M4.length) (M4 ++ [.lst ((ss.drop K).map Stp.av)]) := by
    simp only [opSl, gg4.get _ _ R.gL, cut_from, newL]
    rw [if_pos (by simp; unfold sizeLine; omega), List.map_drop]
  refine okv e5 ?_
  have gV : (M4 ++ [AO.lst ((ss.drop K).map Stp.av)])[M4.length]? = some (.lst ((ss.drop K).map Stp.av)) := by simp
  have g5 : Grw M4 (M4 ++ [AO.lst ((ss.drop K).map Stp.av)]) := Grw.app
  generalize M4 ++ [AO.lst ((ss.drop K).map Stp.av)] = M5 at gV g5
  refine okv (add_ok (g5.get _ _ gU) gV (by simp; omega)) ?_
  have ea : (ss.take K).map Stp.av ++ [v, AV.non] ++ (ss.drop K).map Stp.av = (ss.take K).map Stp.av ++ v :: .non :: (ss.drop K).map Stp.av := by simp
  rw [ea]
  have gW : (M5 ++ [AO.lst ((ss.take K).map Stp.av ++ v :: .non :: (ss.drop K).map Stp.av)])[M5.length]? = some (.lst ((ss.take K).map Stp.av ++ v :: .non :: (ss.drop K).map Stp.av)) := by simp
  have g6 : Grw M5 (M5 ++ [AO.lst ((ss.take K).map Stp.av ++ v :: .non :: (ss.drop K).map Stp.av)]) := Grw.app
  generalize M5 ++ [AO.lst ((ss.take K).map Stp.av ++ v :: .non :: (ss.drop K).map Stp.av)] = M6 at gW g6
  have gg6 := (gg4.trans g5).trans g6
  refine if_f (ok_cmp ?_)
  have x1 : XR (lamF 0 [1, 6] [some (.val (.ref s)), some (.val (.int P)), some (.val (.ref L)), q3, some (.val (.int K)), some (.val v), some (.val (.ref M5.length)), q7, q8] (makeC "Web" 3 f_Web_init (consA (varC 0) (consA (varC 1) nilA))) [] M6) "BadSteps" [("index", .int K)] (Grw M6) := by
    refine try_go (loc := [some (.val (.int P)), some (.val (.ref M5.length))]) rfl ?_
    and_intros
    refine ⟨Grw.refl, web_steps (s := s) (n := n) (by omega) fun F M' g hF => ?_⟩
    have fb := fb_steps (F := F) (res := .int (ss.take K).length) hF (s' := M5.length + 1) (n' := M5.length + 1) (.inr ⟨_, rfl, by omega, by omega, g.get _ _ gW⟩) (R.nd.sublist (List.take_sublist _ _)) (by omega) (fun st hs => R.hb st (List.mem_of_mem_take hs)) (.bad fun M'' g'' => ?_)
    · rw [hKl] at fb
      exact fb
    · rw [hF]
      exact okv (h M'' ((gg6.trans g).trans g'')) ⟨rfl, rfl⟩
  refine (tried_steps x1).imp ?_
  rintro r M7 ⟨rfl, g7⟩
  refine ok_args (ok_cons (ok_con (ok_cons (ok_var (a := .int K) rfl (ok_nil (ok_tupSI ?_))))))
  refine okv (neY_si (by decide +kernel)) ⟨_, rfl, rfl, ?_⟩
  exact ok_skip ⟨⟨_, _, _, _, _, rfl⟩, gg6.trans g7⟩
/-- a step twice -/
theorem twice_ok {q3 q5 q6 q7 q8 : Option SV} {T : AV → AH → Prop} (R : Trn s n P L ss M) :
    OkS ((ifS (andT (cmpT (opNeY fns ws []) (varC 2) (argsC lstA nilA)) (cmpT (opNeY fns ws []) (callX 1 f_law_tried (consL 35 0 [1, 2] (makeC "Web" 3 f_Web_init (consA (varC 0) (consA (bin2 opAdd (varC 1) (argsC lstA (consA (argsC listA (consA (bin2 opIx (varC 1) (conC (.int 0))) nilA)) (consA (conC .non) nilA)))) nilA))) nilX)) (argsC tupA (consA (conC (.str "steps")) (consA (argsC lenA (consA (varC 2) nilA)) nilA)))))
  (retC (conC (.bl false)))
  skipC) [some (.val (.ref s)), some (.val (.int P)), some (.val (.ref L)), q3, some (.val (.int K)), q5, q6, q7, q8] M) (fun vs2 M2 => VsR s P L K vs2 ∧ Grw M M2) T := by
  have hl := R.hl
  have hP1 := R.p1
  refine ok_if (ok_andT (ok_cmp (ok_var (a := .ref L) rfl (ok_args (ok_nil (ok_new (by simp) fun e M1 g1 _ _ ge => okv (neY_steps (g1.get _ _ R.gL) ge) ⟨_, rfl, ?_⟩))))))
  cases hss : ss with
  | nil =>
    rw [if_neg (by simp)]
    exact ok_skip ⟨⟨_, _, _, _, _, rfl⟩, g1⟩
  | cons st ts =>
    rw [if_pos (by simp)]
    have R1 := R.fr g1.fr
    refine ok_cmp ?_
    have x1 : XR (lamF 0 [1, 2] [some (.val (.ref s)), some (.val (.int P)), some (.val (.ref L)), q3, some (.val (.int K)), q5, q6, q7, q8] (makeC "Web" 3 f_Web_init (consA (varC 0) (consA (bin2 opAdd (varC 1) (argsC lstA (consA (argsC listA (consA (bin2 opIx (varC 1) (conC (.int 0))) nilA)) (consA (conC .non) nilA)))) nilA))) [] M1) "BadSteps" [("index", .int ss.length)] (Grw M1) := by
      refine try_go (loc := [some (.val (.int P)), some (.val (.ref L))]) rfl ?_
      refine ok_cons (ok_var (a := .int P) rfl (ok_cons (ok_bin (ok_var (a := .ref L) rfl (ok_args (ok_cons (ok_args (ok_cons (ok_bin (ok_var (a := .ref L) rfl (ok_con ?_)))))))))))
      have e0 : atI (ss.map Stp.av) 0 = some st.av := by rw [hss]; simp [atI, ixN]
      refine okv (ix_at R1.gL e0) (ok_nil ?_)
      have e1 : listA [st.av] M1 = .ok (.ref M1.length) (M1 ++ [.lst [.int st.a, .int st.b, st.am, .int st.t, .int st.c]]) := list_tup (by simp)
      refine okv e1 ?_
      have h2 : (M1 ++ [AO.lst [.int st.a, .int st.b, st.am, .int st.t, .int st.c]])[M1.length]? = some (.lst [.int st.a, .int st.b, st.am, .int st.t, .int st.c]) := by simp
      have g2 : Grw M1 (M1 ++ [AO.lst [.int st.a, .int st.b, st.am, .int st.t, .int st.c]]) := Grw.app
      generalize M1 ++ [AO.lst [.int st.a, .int st.b, st.am, .int st.t, .int st.c]] = M2 at h2 g2
      refine ok_cons (ok_con (ok_nil (ok_new (by simp) fun e M3 g3 _ _ ge => ?_)))
      refine okv (add_ok ((g2.trans g3).get _ _ R1.gL) ge (by simp; omega)) ?_
      have gW : (M3 ++ [AO.lst (ss.map Stp.av ++ [.ref M1.length, .non])])[M3.length]? = some (.lst (ss.map Stp.av ++ [.ref M1.length, .non])) := by simp
      have g4 : Grw M3 (M3 ++ [AO.lst (ss.map Stp.av ++ [.ref M1.length, .non])]) := Grw.app
      generalize M3 ++ [AO.lst (ss.map Stp.av ++ [.ref M1.length, .non])] = M4 at gW g4
      refine ok_nil ⟨(g2.trans g3).trans g4, web_steps (s := s) (n := n) (by omega) fun F M' g hF => ?_⟩
      have lk : ∀ M'', Grw M' M'' → Like (M1.length + 1) (M1.length + 1) M'' (.ref M1.length) st.av := fun M'' g'' =>
        .seq (.inr ⟨_, rfl, by omega, by omega, ((g3.trans g4).trans (g.trans g'')).get _ _ h2⟩) (.cons (.int _) (.cons (.int _) (.cons (.seq (.inl rfl) (.cons (.int _) (.cons (.int _) .nil))) (.cons (.int _) (.cons (.int _) .nil)))))
      refine fb_steps (F := F) (res := .int ss.length) hF (s' := M3.length + 1) (n' := M3.length + 1) (.inr ⟨_, rfl, by omega, by omega, g.get _ _ gW⟩) R.nd (by omega) R.hb (.twice (x := st) (by rw [hss]; simp) (fun M'' g'' => ?_) fun M'' g'' => as_av (lk M'' g''))
      rw [hF]
      refine (is_step_ok (StpIs.of (lk M'' g''))).imp fun r M2 h => ⟨?_, h.2⟩
      rw [h.1, R.hb st (by rw [hss]; simp)]
    refine (tried_steps x1).imp ?_
    rintro r M7 ⟨rfl, g7⟩
    have en : lenA [.ref L] M7 = .ok (.int ss.length) M7 := by simp [lenA, g7.get _ _ R1.gL]
    refine ok_args (ok_cons (ok_con (ok_cons (ok_args (ok_cons (ok_var (a := .ref L) rfl (ok_nil (okv en (ok_nil (ok_tupSI ?_))))))))))
    refine okv (neY_si (by decide +kernel)) ⟨_, rfl, ?_⟩
    exact ok_skip ⟨⟨_, _, _, _, _, rfl⟩, g1.trans g7⟩
def OddP (M : AH) (v : AV) : Prop := (∀ M', Grw M M' → f_is_positive [.val v] M' = .ok (.bl false) M') ∧ Sm M 29 v v
theorem turnC {v : AV} {M0 : AH} {q3 q6 q7 q8 : Option SV} {T : AV → AH → Prop} (h : OddP M0 v) (g0 : Grw M0 M) :
    OkS ((ifS (notT (truC (callC 2 (f_law_same 30) (consA (callX 1 f_law_tried (consL 35 0 [5] (makeC "Web" 3 f_Web_init (consA (varC 0) (consA (argsC lstA (consA (conC .non) nilA)) nilA))) nilX)) (consA (argsC tupA (consA (conC (.str "places")) (consA (varC 5) nilA))) nilA)))))
  (retC (conC (.bl false)))
  skipC) [some (.val (.ref s)), some (.val (.int P)), some (.val (.ref L)), q3, some (.val (.int K)), some (.val v), q6, q7, q8] M) (fun vs2 M2 => VsR s P L K vs2 ∧ Grw M M2) T := by
  refine if_f (ok_notT (ok_tru (ok_call (ok_cons ?_))))
  have x1 : XR (lamF 0 [5] [some (.val (.ref s)), some (.val (.int P)), some (.val (.ref L)), q3, some (.val (.int K)), some (.val v), q6, q7, q8] (makeC "Web" 3 f_Web_init (consA (varC 0) (consA (argsC lstA (consA (conC .non) nilA)) nilA))) [] M) "BadPlaces" [("places", v)] (Grw M) := by
    refine try_go (loc := [some (.val v)]) rfl ?_
    refine ok_cons (ok_var (a := v) rfl (ok_cons (ok_args (ok_cons (ok_con (ok_nil (ok_new (by simp) fun e M1 g1 _ _ ge => ok_nil ⟨g1, ?_⟩)))))))
    exact web_places fun M' g => h.1 M' ((g0.trans g1).trans g)
  refine (tried_places x1).imp ?_
  rintro r M1 ⟨rfl, g1⟩
  refine ok_cons (ok_args (ok_cons (ok_con (ok_cons (ok_var (a := v) rfl (ok_nil (ok_tupSI (ok_nil ⟨rfl, ?_⟩))))))))
  have sm : Sm M0 30 (.tup [.str "places", v]) (.tup [.str "places", v]) := .tup (by simp) (.cons (sm_str (by decide +kernel)) (.cons h.2 .nil))
  refine (same_ok 30 sm M1 (g0.trans g1)).imp ?_
  rintro r M2 ⟨rfl, g2⟩
  refine okv (a := true) (M := M2) rfl ⟨rfl, ?_⟩
  exact ok_skip ⟨⟨_, _, _, _, _, rfl⟩, g1.trans g2⟩
end
end K01
end

section
set_option Elab.async false
set_option linter.all false
set_option autoImplicit false
set_option maxRecDepth 100000
set_option maxHeartbeats 4000000
/-! k01, the plain side: refused_right. -/
namespace K01
open PySem AM L2 AP
local macro_rules | `(tactic| and_intros) => `(tactic| repeat (first | (with_reducible first | refine ok_seq ?_ | refine ok_ret ?_ | refine ok_set ?_ | refine ok_drop ?_ | refine ok_con ?_ | refine ok_nil ?_ | refine ok_cons ?_ | refine ok_args ?_ | refine ok_bin ?_ | refine ok_un ?_ | refine ok_tru ?_ | refine ok_notT ?_ | refine ok_cmp ?_ | refine ok_par ?_ | refine ok_for ?_ | refine ok_skip ?_ | refine ok_notC ?_ | refine ok_ifC ?_ | refine ok_call ?_) | ((with_reducible apply ok_var); exact rfl)))
theorem sm_draw {M : AH} {k : Nat} : Sm M (k + 1) (.glo "_law_draw") (.glo "_law_draw") := .sc (t := .fn) (b := false) ty_draw rfl rfl rfl rfl (fun M' _ => by
  have : ("_law_draw" : Str) ∈ fns := by decide +kernel
  show (if ("_law_draw" : Str) = "_law_draw" ∧ ("_law_draw" : Str) ∈ fns then R.ok (AV.bl true) M' else .bad) = _
  exact if_pos ⟨rfl, this⟩)
section
variable {s n c P L : Nat} {ss : List Stp} {M M' : AH}
theorem refused_right_ok (S : Strm s n c M) (hc : c + 1000 < 2 ^ 40) (T : Trn s n P L ss M) :
    OkR (f_law_refused_right [.val (.ref s), .val (.int P), .val (.ref L)] M) fun v M' => v = .bl true ∧ Strm s n (c + 200) M' ∧ Fr s n M M' := by
  have hmx : ∀ {c : Nat} {a : AV} {xs : List AV} {M : AH}, Strm s n c M → c + xs.length < 2 ^ 40 → Its s n a xs M → xs.length < sizeLine →
    OkR (f_law_mixed [.val (.ref s), .val a] M) fun v M' => ∃ f ys, v = .ref f ∧ M.length ≤ f ∧ M'[f]? = some (.lst ys) ∧ ys.Perm xs ∧ Strm s n (c + xs.length) M' ∧ Fr s n M M' := fun h1 h2 h3 h4 => mixed_ok h1 h2 h3 h4
  have hpk : ∀ {c : Nat} {a : AV} {xs : List AV} {M : AH}, Strm s n c M → c < 2 ^ 40 → Its s n a xs M → xs ≠ [] → xs.length ≤ sizeLine →
    OkR (f_law_pick [.val (.ref s), .val a] M) fun v M' => v ∈ xs ∧ Strm s n (c + 1) M' ∧ Fr s n M M' := fun h1 h2 h3 h4 h5 => pick_ok h1 h2 h3 h4 h5
  unfold f_law_refused_right c_law_refused_right
  generalize f_law_mixed = MX at hmx ⊢
  generalize f_law_pick = PK at hpk ⊢
  have hl := T.hl
  have hp1 := T.p1
  have lts := Strm.lts S
  have ltn := Strm.ltn S
  -- a step
  refine ok_fn (ok_seq (ok_set (ok_call (ok_cons (ok_var (a := .ref s) rfl (ok_cons (ok_bin (ok_var (a := .ref L) rfl (ok_args (ok_cons (ok_args (ok_cons (ok_con (ok_cons (ok_con (ok_cons (ok_args (ok_cons (ok_con (ok_cons (ok_con (ok_nil (ok_tup (by simp) (ok_cons (ok_con (ok_cons (ok_con (ok_nil (ok_tup (by simp) (ok_nil (ok_new (by simp) fun e M1 g1 _ _ ge => ?_)))))))))))))))))))))))))))))))
  refine okv (add_ok (g1.get _ _ T.gL) ge (by simp; omega)) (ok_nil ⟨rfl, ?_⟩)
  have e0 : ss.map Stp.av ++ [AV.tup [.int 0, .int 0, .tup [.int 1, .int 1], .int 1, .int 0]] = (ss ++ [(⟨0, 0, 1, 1, 1, 0⟩ : Stp)]).map Stp.av := by simp [Stp.av, Stp.am]
  rw [e0]
  have h2 : (M1 ++ [AO.lst ((ss ++ [(⟨0, 0, 1, 1, 1, 0⟩ : Stp)]).map Stp.av)])[M1.length]? = some (.lst ((ss ++ [(⟨0, 0, 1, 1, 1, 0⟩ : Stp)]).map Stp.av)) := by simp
  have g2 : Grw M1 (M1 ++ [AO.lst ((ss ++ [(⟨0, 0, 1, 1, 1, 0⟩ : Stp)]).map Stp.av)]) := Grw.app
  generalize M1 ++ [AO.lst ((ss ++ [(⟨0, 0, 1, 1, 1, 0⟩ : Stp)]).map Stp.av)] = M2 at h2 g2
  have l1 := g1.len
  refine (hpk (S.ext (g1.trans g2)) (by omega) (.inr ⟨_, rfl, by omega, by omega, h2⟩) (by simp) (by simp; unfold sizeLine; omega)).imp ?_
  rintro v M3 ⟨hv, S3, f3⟩
  obtain ⟨st, _, rfl⟩ := List.mem_map.mp hv
  have F3 : Fr s n M M3 := (g1.trans g2).fr.trans f3
  have T3 := T.fr F3
  -- where
  have en : lenA [.ref L] M3 = .ok (.int ss.length) M3 := by simp [lenA, T3.gL]
  refine ok_seq (ok_set (ok_call (ok_cons (ok_var (a := .ref s) rfl (ok_cons (ok_bin (ok_args (ok_cons (ok_var (a := .ref L) rfl (ok_nil (okv en (ok_con ?_))))))))))))
  refine okv (a := .int ((ss.length : Int) + 1)) (M := M3) rfl (ok_nil ⟨rfl, ?_⟩)
  refine (draw_go (m := (ss.length : Int) + 1) S3 (by omega) (by omega) (by omega)).imp ?_
  rintro v M4 ⟨d, rfl, d0, d1, S4, f4⟩
  obtain ⟨K, rfl⟩ : ∃ K : Nat, d = K := ⟨d.toNat, by omega⟩
  have F4 := F3.trans f4
  have T4 := T.fr F4
  have ls4 := Strm.lts S4
  have ln4 := Strm.ltn S4
  -- odd steps
  refine ok_seq (ok_for (OkR.bind (ok_slice (ok_call (ok_cons (ok_var (a := .ref s) rfl (ok_cons (ok_call (ok_cons (ok_var (a := .int P) rfl (ok_cons (ok_var (a := st.av) rfl (ok_nil ⟨rfl, ?_⟩)))))))))))))
  refine (odd_steps_ok (st := st) ls4 ln4).imp ?_
  rintro r M5 ⟨i, xs, rfl, li, gi, hxl, g5, hno⟩
  refine ok_nil ⟨rfl, ?_⟩
  refine (hmx (a := .ref i) (xs := xs) (S4.ext g5) (by omega) (.inr ⟨i, rfl, by omega, by omega, gi⟩) (by unfold sizeLine; omega)).imp ?_
  rintro v M6 ⟨g, ys, rfl, hg, gg, pm, S6, f6⟩
  have yl := pm.length_eq
  refine ok_no (ok_some (ok_con ⟨_, rfl, ?_⟩))
  have e7 : opSl (.ref g) none (some ((12 : Nat) : Int)) M6 = .ok (.ref M6.length) (M6 ++ [.lst (ys.take 12)]) := by
    simp only [opSl, gg, cut_to, newL]
    rw [if_pos (by simp; unfold sizeLine; omega)]
  refine okv e7 ?_
  have h7 : (M6 ++ [AO.lst (ys.take 12)])[M6.length]? = some (.lst (ys.take 12)) := by simp
  have g7 : Grw M6 (M6 ++ [AO.lst (ys.take 12)]) := Grw.app
  generalize M6 ++ [AO.lst (ys.take 12)] = M7 at h7 g7
  have I : Its (M6.length + 1) (M6.length + 1) (.ref M6.length) (ys.take 12) M7 := .inr ⟨_, rfl, by omega, by omega, h7⟩
  obtain ⟨it, hw, wk⟩ := I.walk
  have ei : iterA (.ref M6.length) M7 = .ok it M7 := by
    unfold iterA
    rw [hw]
  refine okv ei ?_
  rw [wk.items]
  have S7 : Strm s n (c + 100) M7 := (S6.ext g7).mono (by omega)
  have F7 : Fr s n M M7 := ((F4.trans g5.fr).trans f6).trans g7.fr
  have T7 := T.fr F7
  refine OkS.imp (ok_loop (T := fun v M' => v = .bl true ∧ Strm s n (c + 200) M' ∧ Fr s n M M') (N := fun vs' M' => VsR s P L K vs' ∧ Grw M7 M') (fun rest vs' M' => (∀ v ∈ rest, v ∈ xs) ∧ VsR s P L K vs' ∧ Grw M7 M') (fun rest vs' M' hh => wk.ok _ (I.ext hh.2.2)) ?step (fun vs' M' hh => hh.2) _ _ _ ⟨fun v hv => pm.mem_iff.mp (List.mem_of_mem_take hv), ⟨_, _, _, _, _, rfl⟩, Grw.refl⟩) ?rest (fun _ _ z => z)
  case step =>
    rintro v rest vs' M' ⟨hm, ⟨q3, q5, q6, q7, q8, rfl⟩, g8⟩
    refine ok_turn (OkS.imp (turnA (T7.fr g8.fr) (by omega) fun M'' g'' => hno v (hm v (List.mem_cons_self ..)) M'' (((f6.trans g7.fr).trans g8.fr).trans g''.fr)) ?_ (fun _ _ z => z))
    rintro vs2 M8 ⟨hV, g9⟩
    exact ⟨fun u hu => hm u (List.mem_cons_of_mem _ hu), hV, g8.trans g9⟩
  case rest =>
    rintro vs' M8 ⟨⟨q3, q5, q6, q7, q8, rfl⟩, g8⟩
    have T8 := T7.fr g8.fr
    refine ok_seq (OkS.imp (twice_ok T8) ?_ fun _ _ z => z)
    rintro vs' M9 ⟨⟨q3, q5, q6, q7, q8, rfl⟩, g9⟩
    have T9 := T8.fr g9.fr
    have g79 := g8.trans g9
    -- places
    refine ok_seq (odds_for (V := VsR s P L K) ?_)
    refine ok_cons (ok_con (ok_cons (ok_con (ok_cons (ok_neg (ok_cons (ok_con (ok_cons (ok_con (ok_cons (ok_args (ok_cons (ok_con (ok_nil (ok_tup (by simp) ?_)))))))))))))))
    refine ok_cons (ok_args (ok_nil (ok_new (by simp) fun e1 M10 g10 _ _ h10 => ok_cons ?_)))
    refine ok_newD fun e2 M11 g11 _ _ h11 => ?_
    refine ok_cons (ok_con (ok_nil ⟨by simp, ?_, ⟨_, _, _, _, _, rfl⟩, ?_⟩))
    · rintro v hv vs' M' ⟨q3, q5, q6, q7, q8, rfl⟩ g
      have h10' := g11.get _ _ h10
      have od : OddP M11 v := by
        simp only [List.mem_cons, List.not_mem_nil, or_false] at hv
        rcases hv with rfl | rfl | rfl | rfl | rfl | rfl | rfl | rfl | rfl
        · exact ⟨fun M' g => isp_not (t := .non) rfl rfl, sm_non⟩
        · exact ⟨fun M' _ => isp_z (by decide), sm_int⟩
        · exact ⟨fun M' _ => isp_z (by decide), sm_int⟩
        · exact ⟨fun M' g => isp_not (t := .bl) rfl rfl, sm_bl⟩
        · exact ⟨fun M' g => isp_not (t := .str) rfl rfl, sm_str (by decide +kernel)⟩
        · exact ⟨fun M' g => isp_not (t := .tup) rfl rfl, .tup (by simp) (.cons sm_int .nil)⟩
        · exact ⟨fun M' g => isp_not (ty_lst h10' M' g) rfl, .lst (by simp) h10' h10' .nil⟩
        · exact ⟨fun M' g => isp_not (ty_dct h11 M' g) rfl, sm_dct h11⟩
        · exact ⟨fun M' g => isp_not (ty_draw M' g) rfl, sm_draw⟩
      exact turnC od g
    rintro vs' M12 ⟨q3, q5, q6, q7, q8, rfl⟩ g12
    have g712 := g79.trans ((g10.trans g11).trans g12)
    have T12 := T7.fr g712.fr
    clear h10 h11
    -- the very object
    refine ok_seq (ok_set (ok_args (ok_cons (ok_con (ok_nil (ok_new (by simp) fun h M13 g13 lh _ gh => ?_))))))
    refine ok_seq (ok_set ?_)
    have x1 : XR (lamF 0 [7, 2] [some (.val (.ref s)), some (.val (.int P)), some (.val (.ref L)), q3, some (.val (.int K)), q5, q6, some (.val (.ref h)), q8] (makeC "Web" 3 f_Web_init (consA (varC 0) (consA (varC 1) nilA))) [] M13) "BadPlaces" [("places", .ref h)] (Grw M13) := by
      refine try_go (loc := [some (.val (.ref h)), some (.val (.ref L))]) rfl ?_
      and_intros
      exact ⟨Grw.refl, web_places fun M' g => isp_not (ty_lst gh M' g) rfl⟩
    refine (tried_places x1).imp ?_
    rintro r M14 ⟨rfl, g14⟩
    have gh14 := g14.get _ _ gh
    refine ok_seq (ok_drop (ok_meth (ok_var (a := .ref h) rfl ⟨_, kind_lst gh14, ok_cons (ok_con (ok_nil ?_))⟩)))
    refine okv (append_ok gh14 (by simp; unfold sizeLine; decide)) ?_
    have gh15 : (M14.set h (.lst ([.int 1] ++ [.str "late"])))[h]? = some (.lst [.int 1, .str "late"]) := set_get gh14
    have g15 : Grw M12 (M14.set h (.lst ([.int 1] ++ [.str "late"]))) := (g13.trans g14).fresh lh
    generalize M14.set h (.lst ([.int 1] ++ [.str "late"])) = M15 at gh15 g15
    refine ok_seq (if_f (ok_notT (ok_tru (ok_call (ok_cons (ok_var (a := .tup [.str "places", .ref h]) rfl (ok_cons (ok_args (ok_cons (ok_con (ok_cons (ok_args (ok_cons (ok_con (ok_cons (ok_con (ok_nil (ok_new (by simp) fun e M16 g16 _ _ ge => ok_nil (ok_tupSI (ok_nil ⟨rfl, ?_⟩))))))))))))))))))))
    have sm : Sm M16 30 (.tup [.str "places", .ref h]) (.tup [.str "places", .ref e]) := .tup (by simp) (.cons (sm_str (by decide +kernel)) (.cons (.lst (by simp) (g16.get _ _ gh15) ge (.cons sm_int (.cons (sm_str (by decide +kernel)) .nil))) .nil))
    refine (same_ok 30 sm M16 Grw.refl).imp ?_
    rintro r M17 ⟨rfl, g17⟩
    refine okv (a := true) (M := M17) rfl ⟨rfl, ok_skip ?_⟩
    have g717 := g712.trans ((g15.trans g16).trans g17)
    have T17 := T7.fr g717.fr
    -- what is no list
    refine ok_ret (ok_args (ok_cons (ok_lc (OkR.bind ?_))))
    refine ok_args (ok_cons (ok_con (ok_cons (ok_con (ok_cons (ok_con (ok_cons ?_)))))))
    refine ok_newD fun d M18 g18 _ _ h18 => ?_
    refine ok_cons (ok_con (ok_cons (ok_con (ok_nil (ok_new (by simp) fun e M19 g19 _ _ ge => ?_)))))
    have I2 : Its (e + 1) (e + 1) (.ref e) [.non, .int 5, .str "ab", .ref d, .bl true, .glo "_law_draw"] M19 := .inr ⟨_, rfl, by omega, by omega, ge⟩
    obtain ⟨it2, hw2, wk2⟩ := I2.walk
    have ei2 : iterA (.ref e) M19 = .ok it2 M19 := by
      unfold iterA
      rw [hw2]
    refine okv ei2 ?_
    have h19 := g19.get _ _ h18
    have A2 : ∀ ys : List AV, (∀ v ∈ ys, v ∈ [AV.non, .int 5, .str "ab", .ref d, .bl true, .glo "_law_draw"]) → All2 (fun x y => y = AV.bl true ∧ x ∈ [AV.non, .int 5, .str "ab", .ref d, .bl true, .glo "_law_draw"]) ys ((ys.map fun _ => true).map AV.bl) := by
      intro ys
      induction ys with
      | nil => exact fun _ => .nil
      | cons y ys ih => exact fun h => .cons ⟨rfl, h y (List.mem_cons_self ..)⟩ (ih fun v hv => h v (List.mem_cons_of_mem _ hv))
    refine ok_lcG (fun M' g => wk2.ok _ (I2.ext g)) (by rw [wk2.items]; exact A2 _ fun _ h => h) (by simp) ?_ ?_
    · rintro v r M' ⟨rfl, hv⟩ g
      refine ⟨_, rfl, ok_bin ?_⟩
      have od : ∃ t, (∀ M'', Grw M' M'' → tyA fns ws M'' v = some t) ∧ isCls ws t LT = some false := by
        simp only [List.mem_cons, List.not_mem_nil, or_false] at hv
        rcases hv with rfl | rfl | rfl | rfl | rfl | rfl
        · exact ⟨.non, fun _ _ => rfl, rfl⟩
        · exact ⟨.int, fun _ _ => rfl, rfl⟩
        · exact ⟨.str, fun _ _ => rfl, rfl⟩
        · exact ⟨.dct, ty_dct (g.get _ _ h19), rfl⟩
        · exact ⟨.bl, fun _ _ => rfl, rfl⟩
        · exact ⟨.fn, ty_draw, rfl⟩
      obtain ⟨t, t1, t2⟩ := od
      have x1 : XR (lamF 0 [1, 5] [some (.val (.ref s)), some (.val (.int P)), some (.val (.ref L)), q3, some (.val (.int K)), some (.val v), q6, some (.val (.ref h)), some (.val (.tup [.str "places", .ref h]))] (makeC "Web" 3 f_Web_init (consA (varC 0) (consA (varC 1) nilA))) [] M') "BadSteps" [("index", .int 0)] (Grw M') := by
        refine try_go (loc := [some (.val (.int P)), some (.val v)]) rfl ?_
        and_intros
        exact ⟨Grw.refl, web_steps (s := s) (n := n) (by omega) fun F M'' g'' hF => okv (fb_not (t1 M'' g'') t2) ⟨rfl, Grw.refl⟩⟩
      refine (tried_steps x1).imp ?_
      rintro r M'' ⟨rfl, g''⟩
      refine ok_args (ok_cons (ok_con (ok_cons (ok_con (ok_nil (ok_tupSI ?_))))))
      exact okv (eqX_si (by decide +kernel)) ⟨rfl, g''⟩
    · intro M20 g20 hd
      have g720 := g717.trans ((g18.trans g19).trans g20)
      exact ok_nil (okv (all_bls hd) ⟨rfl, (S7.ext g720).mono (by omega), F7.trans g720.fr⟩)
end
end K01
end

section
set_option Elab.async false
set_option linter.all false
set_option autoImplicit false
set_option maxRecDepth 100000
set_option maxHeartbeats 4000000
/-! k01, the plain side: the law. -/
namespace K01
open PySem AM L2 AP
local macro_rules | `(tactic| and_intros) => `(tactic| repeat (first | (with_reducible first | refine ok_seq ?_ | refine ok_ret ?_ | refine ok_set ?_ | refine ok_drop ?_ | refine ok_con ?_ | refine ok_nil ?_ | refine ok_cons ?_ | refine ok_args ?_ | refine ok_bin ?_ | refine ok_un ?_ | refine ok_tru ?_ | refine ok_notT ?_ | refine ok_cmp ?_ | refine ok_par ?_ | refine ok_for ?_ | refine ok_skip ?_ | refine ok_notC ?_ | refine ok_ifC ?_ | refine ok_call ?_) | ((with_reducible apply ok_var); exact rfl)))
section
variable {s n c : Nat} {M : AH}
theorem turn_ok {z0 q2 q3 q4 : Option SV} (S : Strm s n c M) (hc : c + 5000 < 2 ^ 40) {N : AM.Loc → AH → Prop} {T : AV → AH → Prop}
    (k : ∀ (q3 q4 : Option SV) (M' : AH), Strm s n (c + 3000) M' → N [z0, some (.val (.ref s)), q2, q3, q4] M') :
    OkS ((seqC (asgC (callC 3 f_law_web (consA (varC 1) (consA (conC (.int 6)) (consA (conC (.int 14)) nilA)))) (tupG 2 (consG (nameG 3) (consG (nameG 4) nilG))))
  (seqC (ifS (orT (notT (truC (callC 3 f_law_made_right (consA (varC 1) (consA (varC 3) (consA (varC 4) nilA)))))) (notT (truC (callC 3 f_law_unlike_right (consA (varC 1) (consA (varC 3) (consA (varC 4) nilA)))))))
  (retC (conC (.bl false)))
  skipC)
  (ifS (notT (truC (callC 3 f_law_refused_right (consA (varC 1) (consA (varC 3) (consA (varC 4) nilA))))))
  (retC (conC (.bl false)))
  skipC))) [z0, some (.val (.ref s)), q2, q3, q4] M) N T := by
  refine ok_seq (ok_asg (ok_call (ok_cons (ok_var (a := .ref s) rfl (ok_cons (ok_con (ok_cons (ok_con (ok_nil ⟨rfl, ?_⟩)))))))))
  refine (web_ok S (by omega)).imp ?_
  rintro v M2 ⟨P, L, ss, rfl, hL, gL, p1, p2, ho, nd, hl, S2, f2⟩
  have lts := Strm.lts S
  have ltn := Strm.ltn S
  have R : Trn s n P L ss M2 := ⟨gL, by omega, by omega, nd, by omega, p1, p2, ho⟩
  refine ok_tg2 (ok_seq (if_f (orT_f (ok_notT (ok_tru (ok_call (ok_cons (ok_var (a := .ref s) rfl (ok_cons (ok_var (a := .int P) rfl (ok_cons (ok_var (a := .ref L) rfl (ok_nil ⟨rfl, ?_⟩)))))))))))))
  refine (made_right_ok S2 (by omega) R).imp ?_
  rintro v M3 ⟨rfl, S3, f3⟩
  have R3 := R.fr f3
  refine okv (a := true) (M := M3) rfl ⟨rfl, ?_⟩
  refine ok_notT (ok_tru (ok_call (ok_cons (ok_var (a := .ref s) rfl (ok_cons (ok_var (a := .int P) rfl (ok_cons (ok_var (a := .ref L) rfl (ok_nil ⟨rfl, ?_⟩)))))))))
  refine (unlike_right_ok S3 (by omega) R3).imp ?_
  rintro v M4 ⟨rfl, S4, f4⟩
  have R4 := R3.fr f4
  refine okv (a := true) (M := M4) rfl ⟨rfl, ?_⟩
  refine ok_skip (if_f (ok_notT (ok_tru (ok_call (ok_cons (ok_var (a := .ref s) rfl (ok_cons (ok_var (a := .int P) rfl (ok_cons (ok_var (a := .ref L) rfl (ok_nil ⟨rfl, ?_⟩)))))))))))
  refine (refused_right_ok S4 (by omega) R4).imp ?_
  rintro v M5 ⟨rfl, S5, f5⟩
  exact okv (a := true) (M := M5) rfl ⟨rfl, k _ _ M5 (S5.mono (by omega))⟩
/-- the web of one place -/
theorem one_web {a : AV} (I : Its s n a [] M) {Q : AV → AH → Prop} (k : ∀ (j : Nat) (M' : AH), Grw M M' → WebIs (1 : Nat) [] M.length j M' → M.length < j → Q (.ref M.length) M') : OkR (makeA "Web" 3 f_Web_init [.int 1, a] M) Q := by
  refine make_web (P := 1) (ss := []) I .nil List.nodup_nil (by simp) (by omega) (by simp) ?_
  intro j M' g W lj
  have e : srt [] = [] := by unfold srt; simp
  rw [e] at W
  exact k j M' g W lj
theorem plain (ns : List Int) (h : ns.length ≤ 63) : ∃ M, f_law [.scr ns] [] = .ok (.bl true) M := by
  have key : OkR (f_law [.scr ns] []) fun r _ => r = .bl true := by
    have hrn : ∀ (k : Nat) (M : AH), k < 2 ^ 60 → rangeA1 [.int k] M = .ok ⟨rangeV 0 k, []⟩ M := fun k M h => range_ok h
    unfold f_law c_law
    generalize rangeA1 = RA at hrn ⊢
    refine ok_fn (ok_seq (ok_set ?_))
    have e1 : callX 1 f_law_stream (consV 0 nilX) (startL 5 [.scr ns]) [] = f_law_stream [.scr ns] [] := rfl
    rw [e1]
    refine (stream_ok h).imp ?_
    rintro r M ⟨rfl, S⟩
    refine ok_seq (ok_for (OkR.bind ?_))
    and_intros
    refine okv (hrn 4 M (by decide)) ?_
    refine OkS.imp (ok_loop (T := fun r _ => r = .bl true) (N := fun _ _ => True) (fun rest vs' M' => ∃ (u : Nat) (q2 q3 q4 : Option SV), u + 3000 * rest.length ≤ 18000 ∧ Strm 1 0 u M' ∧ vs' = [some (.scr ns), some (.val (.ref 1)), q2, q3, q4])
      (fun _ _ _ _ => rfl) ?step (fun _ _ _ => trivial) _ _ _ ⟨0, none, none, none, by simp [rangeV], S, rfl⟩) ?rest (fun _ _ z => z)
    case step =>
      rintro x rest vs' M' ⟨u, q2, q3, q4, hu, S', rfl⟩
      simp only [List.length_cons] at hu
      refine ok_turn (turn_ok S' (by omega) ?_)
      intro q3 q4 M'' S''
      exact ⟨u + 3000, _, q3, q4, by omega, S'', rfl⟩
    case rest =>
      intro vs M1 _
      refine ok_ret (andC_t (ok_call (ok_cons (m_wsteps (P := 1) (ok_make (ok_cons (ok_con (ok_cons (ok_args (ok_nil (ok_new (by simp) fun e M2 g2 _ _ ge => ok_nil ?_)))))))))))
      refine one_web (s := e + 1) (n := e + 1) (.inr ⟨e, rfl, by omega, by omega, ge⟩) ?_
      intro j M3 g3 W3 lj
      refine ⟨_, j, [], rfl, W3, by simp, ?_⟩
      intro d M4 g4 k4 l4
      refine ok_cons (ok_args (ok_nil (ok_new (by simp) fun e5 M5 g5 _ _ ge5 => ok_nil ⟨rfl, ?_⟩)))
      refine (same_ok 30 (.lst (by simp) (g5.get _ _ k4) ge5 .nil) M5 Grw.refl).imp ?_
      rintro r M6 ⟨rfl, g6⟩
      refine ⟨rfl, ok_bin (ok_make (ok_cons (ok_con (ok_cons (ok_args (ok_nil (ok_tup (by simp) (ok_nil ?_))))))))⟩
      refine one_web (s := 0) (n := 0) (.inl rfl) ?_
      intro j7 M7 g7 W7 lj7
      refine ok_make (ok_cons (ok_con (ok_cons (ok_args (ok_nil (ok_new (by simp) fun e8 M8 g8 _ _ ge8 => ok_nil ?_))))))
      refine one_web (s := e8 + 1) (n := e8 + 1) (.inr ⟨e8, rfl, by omega, by omega, ge8⟩) ?_
      intro j9 M9 g9 W9 lj9
      exact okv (opEqX_web rfl (W7.ext (g8.trans g9)) W9) (by simp)
  obtain ⟨r, M, e, rfl⟩ := key.eq
  exact ⟨M, e⟩
end
end K01
end

section
set_option Elab.async false
set_option linter.all false
/-! law_k01_webs_made holds. -/
theorem PySem.Challenge.cw_anyaround_k01_webs_made_holds : PySem.Challenge.rw_anyaround_k01_webs_made.Holds :=
  K01.holds_of fun ns h _ => K01.plain ns h
end
