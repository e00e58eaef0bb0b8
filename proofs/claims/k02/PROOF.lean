import PyProof.Rows.All
import Wide.All
import OpenK.AllK
import Wide.FinOn
import HandS.ForMost
import HandS.ForExc
import HandS.IsInst
import HandS.Flow
import HandS.Star
import HandS.Wide
import HandS.TupAny
import HandS.TupMul
import HandS.Style
import HandS.TupLe
import HandS.Defaults
import KE.GoesMore
import KE.GoesEnum
import HandS.Zip
import HandS.Iter
import HandS.Words
import HandS.EndBits
import HandS.Ends
import PySem.Challenge.RW_jumpsets_k02_distances_and_steps
set_option Elab.async false
set_option linter.all false
set_option maxRecDepth 100000
set_option maxHeartbeats 1000000
set_option exponentiation.threshold 100
namespace Q
open PySem PySem.Spec PyProof.Rows L2

/-! ### the mirror's values, objects, results -/
inductive D where
  | non | bl (b : Bool) | int (i : Int) | str (x : Str) | tup (xs : List D) | ref (n : Nat) | ty (n : String) | adr (a : Addr) | kl (xs : List D)
inductive O where
  | lst (xs : List D) | dct (kvs : List (Key × D)) | ins (C : Addr) (fs : List (Str × D)) | xd (fs : List (Str × D))
abbrev Store := List O
abbrev En := List (Option D)
inductive Res (α : Type) where
  | ok (a : α) (S : Store) | err (C : Addr) (n : Option Nat) (S : Store) | bad
inductive SRes where
  | nx (e : En) (S : Store) | rt (d : D) (S : Store) | bk (e : En) (S : Store) | ct (e : En) (S : Store) | err (C : Addr) (n : Option Nat) (e : En) (S : Store) | bad
def Res.bind {α β : Type} (m : Res α) (f : α → Store → Res β) : Res β := match m with
  | .ok a S => f a S
  | .err C n S => .err C n S
  | .bad => .bad
def ofOpt {α : Type} : Option (α × Store) → Res α
  | some (a, S) => .ok a S
  | none => .bad
/-- an expression's result within a statement -/
def Res.stm {α : Type} (m : Res α) (e : En) (f : α → Store → SRes) : SRes := match m with
  | .ok a S => f a S
  | .err C n S => .err C n e S
  | .bad => .bad

/-! ### the relation with the abstract heap -/
/-- a list that is only read: the script, or an object of the module -/
def SqF (K : PySem.W.Frag) (H : Hp) (a : Addr) (xs : List V) : Prop := (∃ o, H a = some (.frz o (.lst xs))) ∨
  ∃ (o : Obj) (its : Array Value) (n : Nat), K.lookup a = some o ∧ o.cls = .type "list" ∧ o.dict = none ∧ o.data = .seq its n ∧ its.size ≤ sizeLine ∧ Vals xs its.toList
theorem SqF.l {K : PySem.W.Frag} {H : Hp} {a : Addr} {xs : List V} (h : SqF K H a xs) : SqL K H a xs := h.elim (fun q => .inl (.inr q)) .inr
mutual
def VR (K : PySem.W.Frag) (r : List Addr) (H : Hp) : D → V → Prop
  | .non, v => v = .non
  | .bl b, v => v = .bl b
  | .int i, v => v = .int i
  | .str x, v => v = .str x
  | .ty n, v => v = .ty n
  | .adr a, v => v = .ref a
  | .ref n, v => ∃ a, r[n]? = some a ∧ v = .ref a
  | .tup xs, v => ∃ a vs, v = .ref a ∧ SqT K H a vs ∧ VRs K r H xs vs
  | .kl xs, v => ∃ a vs, v = .ref a ∧ SqF K H a vs ∧ VRs K r H xs vs
def VRs (K : PySem.W.Frag) (r : List Addr) (H : Hp) : List D → List V → Prop
  | [], vs => vs = []
  | d :: ds, vs => ∃ v ws, vs = v :: ws ∧ VR K r H d v ∧ VRs K r H ds ws
end
def keyD : D → Option Key
  | .int i => some (.inl i)
  | .str x => some (.inr x)
  | _ => none
def KR (K : PySem.W.Frag) (r : List Addr) (H : Hp) : List (Key × D) → List (Key × V) → Prop
  | [], vs => vs = []
  | p :: ds, vs => ∃ v ws, vs = (p.1, v) :: ws ∧ VR K r H p.2 v ∧ KR K r H ds ws
def FR (K : PySem.W.Frag) (r : List Addr) (H : Hp) : List (Str × D) → List (Str × V) → Prop
  | [], vs => vs = []
  | p :: ds, vs => ∃ v ws, vs = (p.1, v) :: ws ∧ VR K r H p.2 v ∧ FR K r H ds ws
/-- what is asked of an own class whose instances the store holds -/
structure OwnOk (K : PySem.W.Frag) (C : Addr) : Prop where
  cl : Cls K C
  ha : PySem.W.findIn K (.ref C) "__class__" = some (some (.builtin "object.__class__"))
  hn : PySem.W.specialIn K (.builtin "object.__class__") "__get__" = some (some (.builtin "getset_descriptor.__get__"))
  htk : PySem.W.takesIn K (.builtin "object.__class__") = some true
  hm : PySem.W.mroIn K C (.type "object") = some true
  nT : ∀ T : String, T = "int" ∨ T = "bool" ∨ T = "tuple" ∨ T = "list" ∨ T = "str" ∨ T = "dict" → PySem.W.kitOne K (.ref C) (.type T) = some false
def OR (K : PySem.W.Frag) (r : List Addr) (H : Hp) : O → Addr → Prop
  | .lst xs, a => ∃ vs, H a = some (.lst vs) ∧ VRs K r H xs vs
  | .dct kvs, a => ∃ vs, H a = some (.dK vs) ∧ KR K r H kvs vs
  | .ins C fs, a => ∃ dx vs, H a = some (.ins C dx vs) ∧ FR K r H fs vs ∧ OwnOk K C
  | .xd fs, a => ∃ vs, H a = some (.xd vs) ∧ FR K r H fs vs
structure ROk (K : PySem.W.Frag) (r : List Addr) (H : Hp) (S : Store) : Prop where
  len : r.length = S.length
  nd : r.Nodup
  ob : ∀ (n : Nat) (o : O) (a : Addr), S[n]? = some o → r[n]? = some a → OR K r H o a
structure Stp (r : List Addr) (H : Hp) (r' : List Addr) (H' : Hp) : Prop where
  pre : ∀ (n : Nat) (a : Addr), r[n]? = some a → r'[n]? = some a
  tup : ∀ (a : Addr) (xs : List V), H a = some (.tup xs) → H' a = some (.tup xs)
  frz : ∀ (a : Addr) (o : Obj) (u : HO), H a = some (.frz o u) → H' a = some (.frz o u)
theorem Stp.refl (r : List Addr) (H : Hp) : Stp r H r H := ⟨fun _ _ h => h, fun _ _ h => h, fun _ _ _ h => h⟩
theorem Stp.trans {r r1 r2 : List Addr} {H H1 H2 : Hp} (a : Stp r H r1 H1) (b : Stp r1 H1 r2 H2) : Stp r H r2 H2 :=
  ⟨fun n x h => b.pre n x (a.pre n x h), fun p xs h => b.tup p xs (a.tup p xs h), fun p o u h => b.frz p o u (a.frz p o u h)⟩
section
variable {K : PySem.W.Frag} {r r' : List Addr} {H H' : Hp}
theorem Stp.sqT (s : Stp r H r' H') {a : Addr} {vs : List V} (h : SqT K H a vs) : SqT K H' a vs := by
  rcases h with (h | ⟨o, h⟩) | h
  · exact .inl (.inl (s.tup _ _ h))
  · exact .inl (.inr ⟨o, s.frz _ _ _ h⟩)
  · exact .inr h
theorem Stp.sqF (s : Stp r H r' H') {a : Addr} {vs : List V} (h : SqF K H a vs) : SqF K H' a vs := h.elim (fun ⟨o, q⟩ => .inl ⟨o, s.frz _ _ _ q⟩) .inr
mutual
theorem VR.mono (s : Stp r H r' H') : ∀ {d : D} {v : V}, VR K r H d v → VR K r' H' d v
  | .non, _, h => h
  | .bl _, _, h => h
  | .int _, _, h => h
  | .str _, _, h => h
  | .ty _, _, h => h
  | .adr _, _, h => h
  | .ref _, _, ⟨a, h1, h2⟩ => ⟨a, s.pre _ _ h1, h2⟩
  | .tup _, _, ⟨a, vs, h1, h2, h3⟩ => ⟨a, vs, h1, s.sqT h2, VRs.mono s h3⟩
  | .kl _, _, ⟨a, vs, h1, h2, h3⟩ => ⟨a, vs, h1, s.sqF h2, VRs.mono s h3⟩
theorem VRs.mono (s : Stp r H r' H') : ∀ {ds : List D} {vs : List V}, VRs K r H ds vs → VRs K r' H' ds vs
  | [], _, h => h
  | _ :: _, _, ⟨v, ws, h1, h2, h3⟩ => ⟨v, ws, h1, VR.mono s h2, VRs.mono s h3⟩
end
theorem KR.mono (s : Stp r H r' H') : ∀ {ds : List (Key × D)} {vs : List (Key × V)}, KR K r H ds vs → KR K r' H' ds vs
  | [], _, h => h
  | _ :: _, _, ⟨v, ws, h1, h3, h4⟩ => ⟨v, ws, h1, h3.mono s, KR.mono s h4⟩
theorem FR.mono (s : Stp r H r' H') : ∀ {ds : List (Str × D)} {vs : List (Str × V)}, FR K r H ds vs → FR K r' H' ds vs
  | [], _, h => h
  | _ :: _, _, ⟨v, ws, h1, h3, h4⟩ => ⟨v, ws, h1, h3.mono s, FR.mono s h4⟩
/-- a tracked object's description where its own object is kept -/
theorem OR.mono (s : Stp r H r' H') {o : O} {a : Addr} (k : H' a = H a) (h : OR K r H o a) : OR K r' H' o a := by
  cases o with
  | lst xs => obtain ⟨vs, h1, h2⟩ := h; exact ⟨vs, k.trans h1, h2.mono s⟩
  | dct kvs => obtain ⟨vs, h1, h2⟩ := h; exact ⟨vs, k.trans h1, h2.mono s⟩
  | ins C fs => obtain ⟨dx, vs, h1, h2, h3⟩ := h; exact ⟨dx, vs, k.trans h1, h2.mono s, h3⟩
  | xd fs => obtain ⟨vs, h1, h2⟩ := h; exact ⟨vs, k.trans h1, h2.mono s⟩
theorem OR.some {o : O} {a : Addr} (h : OR K r H o a) : H a ≠ none := by
  cases o with
  | lst xs => obtain ⟨vs, h1, h2⟩ := h; rw [h1]; exact fun z => nomatch z
  | dct kvs => obtain ⟨vs, h1, h2⟩ := h; rw [h1]; exact fun z => nomatch z
  | ins C fs => obtain ⟨dx, vs, h1, h2⟩ := h; rw [h1]; exact fun z => nomatch z
  | xd fs => obtain ⟨vs, h1, h2⟩ := h; rw [h1]; exact fun z => nomatch z
theorem ROk.at {S : Store} (h : ROk K r H S) {n : Nat} {o : O} (e : S[n]? = some o) : ∃ a, r[n]? = some a ∧ OR K r H o a := by
  have hn : n < r.length := by rw [h.len]; exact (List.getElem?_eq_some_iff.mp e).1
  exact ⟨r[n], List.getElem?_eq_getElem hn, h.ob n o _ e (List.getElem?_eq_getElem hn)⟩
/-- a new object -/
theorem Stp.new {p : Addr} {u : HO} (hp : H p = none) : Stp r H (r ++ [p]) (upd H p u) :=
  ⟨fun n a h => by rw [List.getElem?_append_left (List.getElem?_eq_some_iff.mp h).1]; exact h,
   fun a xs h => by rw [upd_ne (ne_of_none h hp)]; exact h, fun a o u h => by rw [upd_ne (ne_of_none h hp)]; exact h⟩
theorem ROk.mem_ne {S : Store} (h : ROk K r H S) {p : Addr} (hp : H p = none) : p ∉ r := fun hm => by
  obtain ⟨n, hn, e⟩ := List.getElem_of_mem hm
  have hS : n < S.length := by rw [← h.len]; exact hn
  have := (h.ob n S[n] p (List.getElem?_eq_getElem hS) (by rw [List.getElem?_eq_getElem hn, e])).some
  exact this hp
theorem ROk.new {S : Store} (h : ROk K r H S) {p : Addr} {u : HO} {o : O} (hp : H p = none) (ho : OR K (r ++ [p]) (upd H p u) o p) : ROk K (r ++ [p]) (upd H p u) (S ++ [o]) where
  len := by rw [List.length_append, List.length_append, h.len]; rfl
  nd := List.nodup_append.mpr ⟨h.nd, by simp, fun a ha b hb => by
    rw [List.mem_singleton.mp hb]
    intro e
    exact h.mem_ne hp (e ▸ ha)⟩
  ob := fun n o' a e1 e2 => by
    by_cases hn : n < S.length
    · rw [List.getElem?_append_left hn] at e1
      rw [List.getElem?_append_left (by rw [h.len]; exact hn)] at e2
      have hne : a ≠ p := fun e => h.mem_ne hp (e ▸ List.mem_of_getElem? e2)
      exact (h.ob n o' a e1 e2).mono (Stp.new hp) (upd_ne hne)
    · have hl : n < (S ++ [o]).length := (List.getElem?_eq_some_iff.mp e1).1
      rw [List.length_append] at hl
      have en : n = S.length := by simp at hl; omega
      subst en
      rw [List.getElem?_append_right (Nat.le_refl _), Nat.sub_self] at e1
      rw [List.getElem?_append_right (by rw [h.len]; exact Nat.le_refl _), h.len, Nat.sub_self] at e2
      cases e1; cases e2
      exact ho
/-- a fresh object that the store doesn't hold -/
theorem Stp.loose {p : Addr} {u : HO} (hp : H p = none) : Stp r H r (upd H p u) :=
  ⟨fun n a h => h, fun a xs h => by rw [upd_ne (ne_of_none h hp)]; exact h, fun a o u h => by rw [upd_ne (ne_of_none h hp)]; exact h⟩
theorem ROk.loose {S : Store} (h : ROk K r H S) {p : Addr} {u : HO} (hp : H p = none) : ROk K r (upd H p u) S where
  len := h.len
  nd := h.nd
  ob := fun n o' a e1 e2 => (h.ob n o' a e1 e2).mono (Stp.loose hp) (upd_ne fun e => h.mem_ne hp (e ▸ List.mem_of_getElem? e2))
/-- an object changed -/
theorem Stp.mut {p : Addr} {u v : HO} (hp : H p = some v) (hv : Mut (some v)) : Stp r H r (upd H p u) :=
  ⟨fun n a h => h, fun a xs h => by
    rw [upd_ne]; · exact h
    intro e; subst e; rw [hp] at h; cases h; exact hv, fun a o u h => by
    rw [upd_ne]; · exact h
    intro e; subst e; rw [hp] at h; cases h; exact hv⟩
theorem ROk.mut {S : Store} (h : ROk K r H S) {n : Nat} {p : Addr} {u v : HO} {o : O} (hn : r[n]? = some p) (hp : H p = some v) (hv : Mut (some v)) (ho : OR K r (upd H p u) o p) : ROk K r (upd H p u) (S.set n o) where
  len := by rw [List.length_set]; exact h.len
  nd := h.nd
  ob := fun m o' a e1 e2 => by
    by_cases e : m = n
    · subst e
      rw [hn] at e2; cases e2
      have hl : m < S.length := by rw [← h.len]; exact (List.getElem?_eq_some_iff.mp hn).1
      rw [List.getElem?_set_self hl] at e1
      cases e1
      exact ho
    · rw [List.getElem?_set_ne (Ne.symm e)] at e1
      have hne : a ≠ p := fun z => by
        subst z
        obtain ⟨h1, q1⟩ := List.getElem?_eq_some_iff.mp e2
        obtain ⟨h2, q2⟩ := List.getElem?_eq_some_iff.mp hn
        exact e ((List.getElem_inj h.nd).mp (q1.trans q2.symm))
      exact (h.ob m o' a e1 e2).mono (Stp.mut hp hv) (upd_ne hne)
theorem VRs.length : ∀ {ds : List D} {vs : List V}, VRs K r H ds vs → ds.length = vs.length
  | [], _, h => by subst h; rfl
  | _ :: _, _, ⟨v, ws, h1, _, h3⟩ => by subst h1; simp [VRs.length h3]
theorem VRs.get : ∀ {ds : List D} {vs : List V} {i : Nat} {d : D}, VRs K r H ds vs → ds[i]? = some d → ∃ v, vs[i]? = some v ∧ VR K r H d v
  | [], _, _, _, _, e => by simp at e
  | _ :: _, _, 0, _, ⟨v, ws, h1, h2, _⟩, e => by subst h1; simp at e; subst e; exact ⟨v, rfl, h2⟩
  | _ :: _, _, i + 1, _, ⟨v, ws, h1, _, h3⟩, e => by subst h1; simp at e; simpa using VRs.get h3 e
theorem VRs.append : ∀ {ds es : List D} {vs ws : List V}, VRs K r H ds vs → VRs K r H es ws → VRs K r H (ds ++ es) (vs ++ ws)
  | [], _, _, _, h, k => by subst h; exact k
  | _ :: _, _, _, _, ⟨v, us, h1, h2, h3⟩, k => by subst h1; exact ⟨v, us ++ _, rfl, h2, VRs.append h3 k⟩
theorem VRs.take : ∀ {ds : List D} {vs : List V} (n : Nat), VRs K r H ds vs → VRs K r H (ds.take n) (vs.take n)
  | [], _, n, h => by subst h; simp [VRs]
  | _ :: _, _, 0, ⟨v, us, h1, h2, h3⟩ => by simp [VRs]
  | _ :: _, _, n + 1, ⟨v, us, h1, h2, h3⟩ => by subst h1; exact ⟨v, us.take n, by simp, h2, VRs.take n h3⟩
theorem VRs.drop : ∀ {ds : List D} {vs : List V} (n : Nat), VRs K r H ds vs → VRs K r H (ds.drop n) (vs.drop n)
  | [], _, n, h => by subst h; simp [VRs]
  | _ :: _, _, 0, h => by simpa using h
  | _ :: _, _, n + 1, ⟨v, us, h1, h2, h3⟩ => by subst h1; simpa using VRs.drop n h3
theorem VRs.set : ∀ {ds : List D} {vs : List V} {d : D} {v : V} (i : Nat), VR K r H d v → VRs K r H ds vs → VRs K r H (ds.set i d) (vs.set i v)
  | [], _, _, _, _, _, h => by subst h; simp [VRs]
  | _ :: _, _, _, _, 0, k, ⟨v, us, h1, h2, h3⟩ => by subst h1; exact ⟨_, _, rfl, k, h3⟩
  | _ :: _, _, _, _, i + 1, k, ⟨v, us, h1, h2, h3⟩ => by subst h1; exact ⟨_, _, rfl, h2, VRs.set i k h3⟩
theorem VRs.one {d : D} {v : V} (h : VR K r H d v) : VRs K r H [d] [v] := ⟨v, [], rfl, h, rfl⟩
end
end Q

namespace Q
open PySem PySem.Spec PyProof.Rows L2

/-! ### weakest readings -/
def wE (X : Cx) (e : Expr) : TE := fun σ H Q => ∀ (pins : List (Addr × Obj)) (s : Shared), Inv X pins σ H s → wpAny (model X.prog X.w) X.A (eval e X.env) (EP X pins σ Q) X.xe s
def wT (X : Cx) (e : Expr) : TT := fun σ H Q => ∀ (pins : List (Addr × Obj)) (s : Shared), Inv X pins σ H s → wpAny (model X.prog X.w) X.A (isTrue e X.env (eval e X.env)) (TP X pins σ Q) X.xe s
def wA (X : Cx) (es : List Expr) : TA := fun σ H Q => ∀ (pos : Pos) (pins : List (Addr × Obj)) (s : Shared), Inv X pins σ H s → wpAny (model X.prog X.w) X.A (spliced (backTo pos (starEach es X.env))) (AP X pins σ Q) X.xe s
def wS (X : Cx) (st : Stmt) : TS := fun D σ H => ∀ (pins : List (Addr × Obj)) (s : Shared), Inv X pins σ H s → wpAny (model X.prog X.w) X.A (exec st X.env) (SP X pins D) X.xe s
def wSs (X : Cx) (st : List Stmt) : TS := fun D σ H => ∀ (pins : List (Addr × Obj)) (s : Shared), Inv X pins σ H s → wpAny (model X.prog X.w) X.A (execs st X.env) (SP X pins D) X.xe s
theorem pe_wE (X : Cx) (e : Expr) : PE X e (wE X e) := ⟨fun pins s _ _ _ I h => h pins s I⟩
theorem pt_wT (X : Cx) (e : Expr) : PT X e (wT X e) := ⟨fun pins s _ _ _ I h => h pins s I⟩
theorem pa_wA (X : Cx) (es : List Expr) : PA X es (wA X es) := ⟨fun pos pins s _ _ _ I h => h pos pins s I⟩
theorem ps_wS (X : Cx) (st : Stmt) : PS X st (wS X st) := ⟨fun pins s _ _ _ I h => h pins s I⟩
theorem pss_wSs (X : Cx) (st : List Stmt) : PSs X st (wSs X st) := ⟨fun pins s _ _ _ I h => h pins s I⟩
/-- operators by values -/
def wO (X : Cx) (f : Value → Value → Sem Value) : R2 := fun x y H Q => ∀ (pins : List (Addr × Obj)) (s : Shared) (σ : L2.St) (v u : Value), Inv X pins σ H s → RelV x v → RelV y u → wpAny (model X.prog X.w) X.A (f v u) (EP X pins σ Q) X.xe s
theorem opr_wO (X : Cx) (f : Value → Value → Sem Value) : OpR X f (wO X f) := fun pins s σ _ _ _ v u _ I rx ry h => h pins s σ v u I rx ry
def wU (X : Cx) (f : Value → Sem Value) : V → Hp → VK → Prop := fun x H Q => ∀ (pins : List (Addr × Obj)) (s : Shared) (σ : L2.St) (v : Value), Inv X pins σ H s → RelV x v → wpAny (model X.prog X.w) X.A (f v) (EP X pins σ Q) X.xe s
theorem unr_wU (X : Cx) (f : Value → Sem Value) : UnR X f (wU X f) := fun pins s σ _ _ v _ I rx h => h pins s σ v I rx
def wC (X : Cx) (f : Value) : List V → Hp → VK → Prop := fun xs H Q => ∀ (pins : List (Addr × Obj)) (s : Shared) (σ : L2.St) (us : List Value), Inv X pins σ H s → Vals xs us → wpAny (model X.prog X.w) X.A (call f us) (EP X pins σ Q) X.xe s
theorem callr_wC (X : Cx) (f : Value) : CallR X f (wC X f) := fun pins s σ _ _ us _ I r h => h pins s σ us I r

/-! ### what a result promises -/
def NR (r : List Addr) (n : Option Nat) (x : Option Addr) : Prop := match n with
  | none => x = none
  | some n => ∃ a, r[n]? = some a ∧ x = some a
/-- β: the values; R: how the mirror's thing is told by the value -/
def Dn (K : PySem.W.Frag) (r : List Addr) (H : Hp) {α β : Type} (R : List Addr → Hp → α → β → Prop) (m : Res α) (Q : β → Hp → Prop) (W : XK) : Prop := match m with
  | .ok a S' => ∀ (r' : List Addr) (H' : Hp) (v : β), Stp r H r' H' → ROk K r' H' S' → R r' H' a v → Q v H'
  | .err C n S' => ∀ (r' : List Addr) (H' : Hp) (x : Option Addr), Stp r H r' H' → ROk K r' H' S' → NR r' n x → W (.ref C) x H'
  | .bad => False
def RT : List Addr → Hp → Bool → Bool → Prop := fun _ _ a b => b = a
section
variable {K : PySem.W.Frag} {r r1 : List Addr} {H H1 : Hp} {α β γ δ : Type} {R : List Addr → Hp → α → β → Prop} {R2 : List Addr → Hp → γ → δ → Prop} {m : Res α} {f : α → Store → Res γ} {Q : β → Hp → Prop} {Q2 : δ → Hp → Prop} {W : XK}
theorem Dn.mono (s : Stp r H r1 H1) (h : Dn K r H R m Q W) : Dn K r1 H1 R m Q W := by
  cases m with
  | ok a S => exact fun r' H' v s' o k => h r' H' v (s.trans s') o k
  | err C n S => exact fun r' H' x s' o k => h r' H' x (s.trans s') o k
  | bad => exact h
theorem Dn.imp {Q' : β → Hp → Prop} (h : Dn K r H R m Q W) (q : ∀ v H', Q v H' → Q' v H') : Dn K r H R m Q' W := by
  cases m with
  | ok a S => exact fun r' H' v s' o k => q _ _ (h r' H' v s' o k)
  | err C n S => exact fun r' H' x s' o k => h r' H' x s' o k
  | bad => exact h
theorem Dn.bind (h : Dn K r H R2 (m.bind f) Q2 W) : Dn K r H R m (fun v H1 => ∃ a S1 r1, m = .ok a S1 ∧ Stp r H r1 H1 ∧ ROk K r1 H1 S1 ∧ R r1 H1 a v ∧ Dn K r1 H1 R2 (f a S1) Q2 W) W := by
  cases m with
  | ok a S => exact fun r' H' v s o k => ⟨a, S, r', rfl, s, o, k, Dn.mono s h⟩
  | err C n S => exact fun r' H' x s' o k => h r' H' x s' o k
  | bad => exact h
theorem Dn.ok_here {S : Store} {a : α} {v : β} (h : Dn K r H R (.ok a S) Q W) (o : ROk K r H S) (k : R r H a v) : Q v H := h r H v (Stp.refl _ _) o k
end

/-! ### slots -/
structure ER (K : PySem.W.Frag) (r : List Addr) (H : Hp) (e : En) (σ : L2.St) : Prop where
  len : e.length = σ.length
  at_ : ∀ (i : Nat) (d : D), e[i]? = some (some d) → ∃ v, σ[i]? = some (some v) ∧ VR K r H d v
theorem ER.mono {K : PySem.W.Frag} {r r' : List Addr} {H H' : Hp} {e : En} {σ : L2.St} (s : Stp r H r' H') (h : ER K r H e σ) : ER K r' H' e σ :=
  ⟨h.len, fun i d q => let ⟨v, h1, h2⟩ := h.at_ i d q; ⟨v, h1, h2.mono s⟩⟩
theorem ER.set {K : PySem.W.Frag} {r : List Addr} {H : Hp} {e : En} {σ : L2.St} {i : Nat} {d : D} {v : V} (h : ER K r H e σ) (k : VR K r H d v) : ER K r H (e.set i (some d)) (σ.set i (some v)) :=
  ⟨by rw [List.length_set, List.length_set]; exact h.len, fun j d' q => by
    by_cases e' : j = i
    · subst e'
      by_cases hl : j < e.length
      · rw [List.getElem?_set_self hl] at q
        cases q
        exact ⟨v, by rw [List.getElem?_set_self (by rw [← h.len]; exact hl)], k⟩
      · rw [List.getElem?_eq_none (by rw [List.length_set]; omega)] at q
        cases q
    · rw [List.getElem?_set_ne (Ne.symm e')] at q
      obtain ⟨v', h1, h2⟩ := h.at_ j d' q
      exact ⟨v', by rw [List.getElem?_set_ne (Ne.symm e')]; exact h1, h2⟩⟩
def wipeE (e : En) : List Nat → En
  | [] => e
  | i :: l => wipeE (e.set i none) l

/-! ### the judgements -/
abbrev ME := En → Store → Res D
abbrev MT := En → Store → Res Bool
abbrev MA := En → Store → Res (List D)
def WE (W : WX) (σ : L2.St) : XK := fun c x H => W c x σ H
def SndE (X : Cx) (e : Expr) (m : ME) : Prop := ∀ (W : WX), Takes X W → ∀ (en : En) (σ : L2.St) (r : List Addr) (H : Hp) (S : Store) (Q : VK), ER X.K r H en σ → ROk X.K r H S → Dn X.K r H (VR X.K) (m en S) Q (WE W σ) → wE X e σ H Q
def SndT (X : Cx) (e : Expr) (m : MT) : Prop := ∀ (W : WX), Takes X W → ∀ (en : En) (σ : L2.St) (r : List Addr) (H : Hp) (S : Store) (Q : Bool → Hp → Prop), ER X.K r H en σ → ROk X.K r H S → Dn X.K r H RT (m en S) Q (WE W σ) → wT X e σ H Q
def SndA (X : Cx) (es : List Expr) (m : MA) : Prop := ∀ (W : WX), Takes X W → ∀ (en : En) (σ : L2.St) (r : List Addr) (H : Hp) (S : Store) (Q : List V → Hp → Prop), ER X.K r H en σ → ROk X.K r H S → Dn X.K r H (VRs X.K) (m en S) Q (WE W σ) → wA X es σ H Q
theorem wE_of {X : Cx} {e : Expr} {t : TE} (h : PE X e t) {σ : L2.St} {H : Hp} {Q : VK} (q : t σ H Q) : wE X e σ H Q := fun pins s I => h.run pins s σ H Q I q
theorem wT_of {X : Cx} {e : Expr} {t : TT} (h : PT X e t) {σ : L2.St} {H : Hp} {Q : Bool → Hp → Prop} (q : t σ H Q) : wT X e σ H Q := fun pins s I => h.run pins s σ H Q I q
theorem wA_of {X : Cx} {e : List Expr} {t : TA} (h : PA X e t) {σ : L2.St} {H : Hp} {Q : List V → Hp → Prop} (q : t σ H Q) : wA X e σ H Q := fun pos pins s I => h.run pos pins s σ H Q I q

/-! ### names, constants -/
def mVar (i : Nat) : ME := fun en S => match en[i]? with
  | some (some d) => .ok d S
  | _ => .bad
def mC (d : D) : ME := fun _ S => .ok d S
section
variable {X : Cx} {a b c : Expr} {ma mb mc : ME} {pos : Pos}
theorem e_var {i : Nat} {x : Str} {pos : Pos} (hN : X.N[i]? = some x) (hv : Vis X.env.scope x) (hd : (x == ("__debug__" : Str)) = false := by decide) (hcd : (x == ("__classdict__" : Str)) = false := by decide) : SndE X (.Name x pos) (mVar i) := by
  intro W tk en σ r H S Q er ro dn
  refine wE_of (pe_var hN hv hd hcd) ?_
  unfold mVar at dn
  cases h : en[i]? with
  | none => rw [h] at dn; exact dn.elim
  | some o =>
    cases o with
    | none => rw [h] at dn; exact dn.elim
    | some d =>
      rw [h] at dn
      obtain ⟨v, h1, h2⟩ := er.at_ i d h
      exact ⟨v, h1, dn.ok_here ro h2⟩
theorem e_const {e : Expr} {d : D} {v : V} (h : PE X e (tC v)) (k : ∀ r H, VR X.K r H d v) : SndE X e (mC d) := by
  intro W tk en σ r H S Q er ro dn
  exact wE_of h (Dn.ok_here (R := VR X.K) dn ro (k r H))
theorem e_int {i : Int} {j pos} : SndE X (.Constant (.int i) j pos) (mC (.int i)) := e_const pe_int fun _ _ => rfl
theorem e_bl {b j pos} : SndE X (.Constant (.bool b) j pos) (mC (.bl b)) := e_const pe_bl fun _ _ => rfl
theorem e_non {j pos} : SndE X (.Constant .none j pos) (mC .non) := e_const pe_non fun _ _ => rfl
theorem e_str {x j pos} : SndE X (.Constant (.str x) j pos) (mC (.str x)) := e_const pe_str fun _ _ => rfl
/-- a module's constant -/
theorem e_glob {x : Str} {d : D} {v : V} {u : Value} {pos : Pos} (hg : Gl X x) (hm : X.mg x = some u) (r : RelV v u) (k : ∀ r H, VR X.K r H d v) (hd : (x == ("__debug__" : Str)) = false := by decide) : SndE X (.Name x pos) (mC d) := e_const (pe_glob hg hm r hd) k
theorem e_type {x : Str} {T : String} {pos : Pos} (hg : Gl X x) (hm : X.mg x = none) (hv : bootBuiltins x = some (.type T)) (hn : x ≠ "__name__" := by decide) (hd : (x == ("__debug__" : Str)) = false := by decide) : SndE X (.Name x pos) (mC (.ty T)) :=
  e_const (pe_bltn (v := .ty T) hg hm hv rfl hn hd) fun _ _ => rfl

/-! ### operators -/
abbrev G2 := D → D → Store → Option (D × Store)
abbrev G1 := D → Store → Option (D × Store)
abbrev GN := List D → Store → Option (D × Store)
/-- the end of an operation by values -/
abbrev Ed (K : PySem.W.Frag) (r : List Addr) (H : Hp) (z : D) (S' : Store) (Q : VK) : Prop := ∀ (r' : List Addr) (H' : Hp) (v : V), Stp r H r' H' → ROk K r' H' S' → VR K r' H' z v → Q v H'
def OpD (X : Cx) (f : Value → Value → Sem Value) (g : G2) : Prop := ∀ (d e z : D) (x y : V) (r : List Addr) (H : Hp) (S S' : Store) (Q : VK), g d e S = some (z, S') → VR X.K r H d x → VR X.K r H e y → ROk X.K r H S → Ed X.K r H z S' Q → wO X f x y H Q
def UnD (X : Cx) (f : Value → Sem Value) (g : G1) : Prop := ∀ (d z : D) (x : V) (r : List Addr) (H : Hp) (S S' : Store) (Q : VK), g d S = some (z, S') → VR X.K r H d x → ROk X.K r H S → Ed X.K r H z S' Q → wU X f x H Q
def CallD (X : Cx) (f : Value) (g : GN) : Prop := ∀ (ds : List D) (z : D) (xs : List V) (r : List Addr) (H : Hp) (S S' : Store) (Q : VK), g ds S = some (z, S') → VRs X.K r H ds xs → ROk X.K r H S → Ed X.K r H z S' Q → wC X f xs H Q
theorem dn_ofOpt {K : PySem.W.Frag} {r : List Addr} {H : Hp} {o : Option (D × Store)} {Q : VK} {W : XK} (h : Dn K r H (VR K) (ofOpt o) Q W) : ∃ z S', o = some (z, S') ∧ Ed K r H z S' Q := by
  cases o with
  | none => exact h.elim
  | some p => exact ⟨p.1, p.2, rfl, h⟩
def m2 (g : G2) (ma mb : ME) : ME := fun en S => (ma en S).bind fun d S1 => (mb en S1).bind fun e S2 => ofOpt (g d e S2)
def m1 (g : G1) (ma : ME) : ME := fun en S => (ma en S).bind fun d S1 => ofOpt (g d S1)
/-- two operands, then an operation by values -/
theorem two {W : WX} {en : En} {σ : L2.St} {r : List Addr} {H : Hp} {S : Store} {Q : VK} {rd : V → V → Hp → VK → Prop} {g : G2} (ha : SndE X a ma) (hb : SndE X b mb)
    (hr : ∀ (d e z : D) (x y : V) (r : List Addr) (H : Hp) (S S' : Store), g d e S = some (z, S') → VR X.K r H d x → VR X.K r H e y → ROk X.K r H S → Ed X.K r H z S' Q → rd x y H Q)
    (tk : Takes X W) (er : ER X.K r H en σ) (ro : ROk X.K r H S) (dn : Dn X.K r H (VR X.K) (m2 g ma mb en S) Q (WE W σ)) : tOp rd (wE X a) (wE X b) σ H Q := by
  refine ha W tk en σ r H S _ er ro (Dn.imp (Dn.bind dn) fun x H1 ⟨d, S1, r1, e1, s1, o1, k1, d1⟩ => ?_)
  refine hb W tk en σ r1 H1 S1 _ (er.mono s1) o1 (Dn.imp (Dn.bind d1) fun y H2 ⟨e, S2, r2, e2, s2, o2, k2, d2⟩ => ?_)
  obtain ⟨z, S', g1, ed⟩ := dn_ofOpt d2
  exact hr d e z x y r2 H2 S2 S' g1 (k1.mono s2) k2 o2 ed
theorem e_op {op : Operator} {g : G2} (ho : OpD X (binaryOp op) g) (ha : SndE X a ma) (hb : SndE X b mb) : SndE X (.BinOp a op b pos) (m2 g ma mb) := by
  intro W tk en σ r H S Q er ro dn
  exact wE_of (pe_op (opr_wO X _) (pe_wE X a) (pe_wE X b)) (two ha hb (fun d e z x y r H S S' g1 k1 k2 o ed => ho d e z x y r H S S' Q g1 k1 k2 o ed) tk er ro dn)
theorem e_un {op : UnaryOp} {g : G1} (ho : UnD X (unaryOp op) g) (ha : SndE X a ma) : SndE X (.UnaryOp op a pos) (m1 g ma) := by
  intro W tk en σ r H S Q er ro dn
  refine wE_of (pe_un (unr_wU X _) (pe_wE X a)) ?_
  refine ha W tk en σ r H S _ er ro (Dn.imp (Dn.bind dn) fun x H1 ⟨d, S1, r1, e1, s1, o1, k1, d1⟩ => ?_)
  obtain ⟨z, S', g1, ed⟩ := dn_ofOpt d1
  exact ho d z x r1 H1 S1 S' Q g1 k1 o1 ed
/-- a comparison -/
theorem e_cmp {op : CmpOp} {g : G2} (ho : OpD X (compareOp op) g) (ha : SndE X a ma) (hb : SndE X b mb) (hm : behindInMarks op b = false) : SndE X (.Compare a [op] [b] pos) (m2 g ma mb) := by
  intro W tk en σ r H S Q er ro dn
  exact wE_of (pe_cmpR (opr_wO X _) (pe_wE X a) (pe_wE X b) hm) (two ha hb (fun d e z x y r H S S' g1 k1 k2 o ed => ho d e z x y r H S S' Q g1 k1 k2 o ed) tk er ro dn)
end
end Q

namespace Q
open PySem PySem.Spec PyProof.Rows L2
section
variable {X : Cx} {a b c : Expr} {ma mb mc : ME} {mt mu : MT} {rest : List Expr} {pos : Pos}
/-! ### tests -/
def boolD : D → Option Bool
  | .bl b => some b
  | _ => none
def asB (o : Option Bool) (S : Store) : Res Bool := match o with
  | some b => .ok b S
  | none => .bad
def mB (m : ME) : MT := fun en S => (m en S).bind fun d S1 => asB (boolD d) S1
/-- truth -/
def truD (d : D) (S : Store) : Option Bool := match d with
  | .non => some false
  | .bl b => some b
  | .int i => some (i != 0)
  | .str y => if y.length ≤ sizeLine then some ((y.length : Int) != 0) else none
  | .tup xs => some (!xs.isEmpty)
  | .kl xs => some (!xs.isEmpty)
  | .ref n => match S[n]? with
    | some (.lst xs) => some (!xs.isEmpty)
    | some (.dct kvs) => some (!kvs.isEmpty)
    | _ => none
  | _ => none
def mTr (m : ME) : MT := fun en S => (m en S).bind fun d S1 => asB (truD d S1) S1
theorem VRs.isEmpty {K : PySem.W.Frag} {r : List Addr} {H : Hp} {ds : List D} {vs : List V} (h : VRs K r H ds vs) : ds.isEmpty = vs.isEmpty := by
  cases ds with
  | nil => have : vs = [] := h; rw [this]; rfl
  | cons d l => obtain ⟨v, w, e, _⟩ := h; rw [e]; rfl
theorem KR.isEmpty {K : PySem.W.Frag} {r : List Addr} {H : Hp} {ds : List (Key × D)} {vs : List (Key × V)} (h : KR K r H ds vs) : ds.isEmpty = vs.isEmpty := by
  cases ds with
  | nil => have : vs = [] := h; rw [this]; rfl
  | cons d l => obtain ⟨v, w, e, _⟩ := h; rw [e]; rfl
theorem truD_ok {K : PySem.W.Frag} {r : List Addr} {H : Hp} {S : Store} {d : D} {x : V} {k : Bool} (ro : ROk K r H S) (h : VR K r H d x) (e : truD d S = some k) : TruV K x H k := by
  cases d with
  | non => have h : x = .non := h; subst h; exact (Option.some.inj e).symm
  | bl b => have h : x = .bl b := h; subst h; exact (Option.some.inj e).symm
  | int i => have h : x = .int i := h; subst h; exact (Option.some.inj e).symm
  | str y =>
    have h : x = .str y := h; subst h
    unfold truD at e
    dsimp only at e
    by_cases hl : y.length ≤ sizeLine
    · rw [if_pos hl] at e; exact ⟨hl, (Option.some.inj e).symm⟩
    · rw [if_neg hl] at e; cases e
  | tup xs =>
    obtain ⟨p, vs, rfl, hs, hv⟩ := h
    refine .inr (.inl ⟨vs, hs, ?_⟩)
    rw [← hv.isEmpty]; exact (Option.some.inj e).symm
  | ref n =>
    obtain ⟨p, hp, rfl⟩ := h
    unfold truD at e
    dsimp only at e
    cases q : S[n]? with
    | none => rw [q] at e; cases e
    | some o =>
      rw [q] at e
      have ho := ro.ob n o p q hp
      cases o with
      | lst xs => obtain ⟨vs, h1, h2⟩ := ho; exact .inl ⟨vs, .of h1, by rw [← h2.isEmpty]; exact (Option.some.inj e).symm⟩
      | dct kvs => obtain ⟨vs, h1, h2⟩ := ho; exact .inr (.inr ⟨vs, h1, by rw [← h2.isEmpty]; exact (Option.some.inj e).symm⟩)
      | ins C fs => cases e
      | xd fs => cases e
  | ty n => cases e
  | adr a => cases e
  | kl xs =>
    obtain ⟨p, vs, rfl, hs, hv⟩ := h
    refine .inl ⟨vs, hs.l, ?_⟩
    rw [← hv.isEmpty]; exact (Option.some.inj e).symm
/-- an expression whose test is its value's truth -/
theorem t_tru (ha : SndE X a ma) (he : ∀ whole, isTrue a X.env whole = (do let v ← whole; standAt a.pos; holding [v] (truthy v)) := by intro _; rfl) : SndT X a (mTr ma) := by
  intro W tk en σ r H S Q er ro dn
  refine wT_of (pt_truth (pe_wE X a) he) ?_
  refine ha W tk en σ r H S _ er ro (Dn.imp (Dn.bind dn) fun x H1 ⟨d, S1, r1, e1, s1, o1, k1, d1⟩ => ?_)
  cases q : truD d S1 with
  | none => rw [q] at d1; exact d1.elim
  | some k => rw [q] at d1; exact ⟨k, truD_ok o1 k1 q, d1.ok_here o1 rfl⟩
theorem bool_of {K : PySem.W.Frag} {r : List Addr} {H : Hp} {x : V} {d : D} {S : Store} {Q : Bool → Hp → Prop} {W : XK} (k : VR K r H d x) (o : ROk K r H S)
    (dn : Dn K r H RT (asB (boolD d) S) Q W) : ∃ b, x = .bl b ∧ Q b H := by
  cases d with
  | bl b => exact ⟨b, k, dn.ok_here o rfl⟩
  | _ => exact dn.elim
/-- a comparison as a test: its answer a bool -/
theorem t_cmp {op : CmpOp} {g : G2} (ho : OpD X (compareOp op) g) (ha : SndE X a ma) (hb : SndE X b mb) (hm : behindInMarks op b = false) : SndT X (.Compare a [op] [b] pos) (mB (m2 g ma mb)) := by
  intro W tk en σ r H S Q er ro dn
  refine wT_of (pt_cmpR (opr_wO X _) (pe_wE X a) (pe_wE X b) hm) ?_
  have dn2 : Dn X.K r H (VR X.K) (m2 g ma mb en S) (fun x H' => ∃ b, x = .bl b ∧ Q b H') (WE W σ) := Dn.imp (Dn.bind dn) fun x H1 ⟨d, S1, r1, e1, s1, o1, k1, d1⟩ => bool_of k1 o1 d1
  exact two (Q := fun x H' => ∃ b, x = .bl b ∧ Q b H') (rd := wO X (compareOp op)) ha hb (fun d e z x y r H S S' g1 k1 k2 o ed => ho d e z x y r H S S' _ g1 k1 k2 o ed) tk er ro dn2
/-- a op1 b op2 c -/
def mChain (g g' : G2) (ma mb mc : ME) : ME := fun en S => (ma en S).bind fun d S1 => (mb en S1).bind fun e S2 => (ofOpt (g d e S2)).bind fun z S3 => match z with
  | .bl true => (mc en S3).bind fun f S4 => ofOpt (g' e f S4)
  | .bl false => .ok (.bl false) S3
  | _ => .bad
theorem chain_rd {op op' : CmpOp} {g g' : G2} (ho : OpD X (compareOp op) g) (ho' : OpD X (compareOp op') g') (ha : SndE X a ma) (hb : SndE X b mb) (hc : SndE X c mc)
    {W : WX} {en : En} {σ : L2.St} {r : List Addr} {H : Hp} {S : Store} {Q : VK} (tk : Takes X W) (er : ER X.K r H en σ) (ro : ROk X.K r H S) (dn : Dn X.K r H (VR X.K) (mChain g g' ma mb mc en S) Q (WE W σ)) :
    tChain (wO X (compareOp op)) (wO X (compareOp op')) (wE X a) (wE X b) (wE X c) σ H Q := by
  refine ha W tk en σ r H S _ er ro (Dn.imp (Dn.bind dn) fun x H1 ⟨d, S1, r1, e1, s1, o1, k1, d1⟩ => ?_)
  refine hb W tk en σ r1 H1 S1 _ (er.mono s1) o1 (Dn.imp (Dn.bind d1) fun y H2 ⟨e, S2, r2, e2, s2, o2, k2, d2⟩ => ?_)
  cases q : g d e S2 with
  | none => rw [q] at d2; exact d2.elim
  | some p =>
    obtain ⟨z, S3⟩ := p
    rw [q] at d2
    refine ho d e z x y r2 H2 S2 S3 _ q (k1.mono s2) k2 o2 fun r3 H3 v3 s3 o3 k3 => ?_
    have d2 : Dn X.K r2 H2 (VR X.K) _ Q (WE W σ) := d2
    have d3 := Dn.mono s3 d2
    cases z with
    | bl k =>
      refine ⟨k, k3, ?_⟩
      cases k with
      | true =>
        show wE X c σ H3 _
        refine hc W tk en σ r3 H3 S3 _ ((er.mono s1).mono (s2.trans s3)) o3 (Dn.imp (Dn.bind d3) fun w H4 ⟨f, S4, r4, e4, s4, o4, k4, d4⟩ => ?_)
        cases q' : g' e f S4 with
        | none => rw [q'] at d4; exact d4.elim
        | some p' =>
          obtain ⟨y', S5⟩ := p'
          rw [q'] at d4
          exact ho' e f y' y w r4 H4 S4 S5 _ q' (k2.mono (s3.trans s4)) k4 o4 d4
      | false =>
        exact Dn.ok_here (R := VR X.K) (a := .bl false) (v := .bl false) d3 o3 rfl
    | _ => exact d3.elim
theorem e_chain {op op' : CmpOp} {g g' : G2} (ho : OpD X (compareOp op) g) (ho' : OpD X (compareOp op') g') (ha : SndE X a ma) (hb : SndE X b mb) (hc : SndE X c mc)
    (hm : lastMarks [op, op'] [b, c] = false := by with_unfolding_all rfl) : SndE X (.Compare a [op, op'] [b, c] pos) (mChain g g' ma mb mc) := by
  intro W tk en σ r H S Q er ro dn
  exact wE_of (pe_chain (opr_wO X _) (opr_wO X _) (pe_wE X a) (pe_wE X b) (pe_wE X c) hm) (chain_rd ho ho' ha hb hc tk er ro dn)
theorem t_chain {op op' : CmpOp} {g g' : G2} (ho : OpD X (compareOp op) g) (ho' : OpD X (compareOp op') g') (ha : SndE X a ma) (hb : SndE X b mb) (hc : SndE X c mc)
    (hm : lastMarks [op, op'] [b, c] = false := by with_unfolding_all rfl) : SndT X (.Compare a [op, op'] [b, c] pos) (mB (mChain g g' ma mb mc)) := by
  intro W tk en σ r H S Q er ro dn
  refine wT_of (pt_chain (opr_wO X _) (opr_wO X _) (pe_wE X a) (pe_wE X b) (pe_wE X c) hm) ?_
  exact chain_rd (Q := fun x H' => ∃ b, x = .bl b ∧ Q b H') ho ho' ha hb hc tk er ro (Dn.imp (Dn.bind dn) fun x H1 ⟨d, S1, r1, e1, s1, o1, k1, d1⟩ => bool_of k1 o1 d1)
/-- not -/
def mNot (m : MT) : MT := fun en S => (m en S).bind fun b S1 => .ok (!b) S1
theorem t_not (ha : SndT X a mt) : SndT X (.UnaryOp .Not a pos) (mNot mt) := by
  intro W tk en σ r H S Q er ro dn
  refine wT_of (pt_not (pt_wT X a)) ?_
  exact ha W tk en σ r H S _ er ro (Dn.imp (Dn.bind dn) fun x H1 ⟨d, S1, r1, e1, s1, o1, k1, d1⟩ => Dn.ok_here (R := RT) d1 o1 (by show (!x) = !d; rw [show x = d from k1]))
/-- and, or as tests -/
def mAnd (m n : MT) : MT := fun en S => (m en S).bind fun b S1 => match b with
  | true => n en S1
  | false => .ok false S1
def mOr (m n : MT) : MT := fun en S => (m en S).bind fun b S1 => match b with
  | true => .ok true S1
  | false => n en S1
def SndW (X : Cx) (e : Expr) (m : MT) : Prop := ∀ (W : WX), Takes X W → ∀ (en : En) (σ : L2.St) (r : List Addr) (H : Hp) (S : Store) (Q : Bool → Hp → Prop), ER X.K r H en σ → ROk X.K r H S → Dn X.K r H RT (m en S) Q (WE W σ) →
  ∀ (whole : Sem Value) (pins : List (Addr × Obj)) (s : Shared), Inv X pins σ H s → wpAny (model X.prog X.w) X.A (isTrue e X.env whole) (TP X pins σ Q) X.xe s
def wW (X : Cx) (e : Expr) : TT := fun σ H Q => ∀ (whole : Sem Value) (pins : List (Addr × Obj)) (s : Shared), Inv X pins σ H s → wpAny (model X.prog X.w) X.A (isTrue e X.env whole) (TP X pins σ Q) X.xe s
theorem pw_wW (X : Cx) (e : Expr) : PW X e (wW X e) := ⟨fun wh pins s _ _ _ I h => h wh pins s I⟩
theorem t_w {e : Expr} (h : SndW X e mt) : SndT X e mt := fun W tk en σ r H S Q er ro dn pins s I => h W tk en σ r H S Q er ro dn _ pins s I
theorem w_and1 (ha : SndT X a mt) : SndW X (.BoolOp .And [a] pos) mt := fun W tk en σ r H S Q er ro dn wh pins s I => (pw_and1 (pt_wT X a)).run wh pins s σ H Q I (ha W tk en σ r H S Q er ro dn)
theorem w_or1 (ha : SndT X a mt) : SndW X (.BoolOp .Or [a] pos) mt := fun W tk en σ r H S Q er ro dn wh pins s I => (pw_or1 (pt_wT X a)).run wh pins s σ H Q I (ha W tk en σ r H S Q er ro dn)
theorem w_and (ha : SndT X a mt) (hb : SndW X (.BoolOp .And (b :: rest) pos) mu) : SndW X (.BoolOp .And (a :: b :: rest) pos) (mAnd mt mu) := fun W tk en σ r H S Q er ro dn wh pins s I => by
  refine (pw_and (pt_wT X a) (pw_wW X _)).run wh pins s σ H Q I ?_
  refine ha W tk en σ r H S _ er ro (Dn.imp (Dn.bind dn) fun x H1 ⟨d, S1, r1, e1, s1, o1, k1, d1⟩ => ?_)
  have k1 : x = d := k1
  subst k1
  cases x with
  | true => exact hb W tk en σ r1 H1 S1 Q (er.mono s1) o1 d1
  | false => exact Dn.ok_here (R := RT) (a := false) (v := false) d1 o1 rfl
theorem w_or (ha : SndT X a mt) (hb : SndW X (.BoolOp .Or (b :: rest) pos) mu) : SndW X (.BoolOp .Or (a :: b :: rest) pos) (mOr mt mu) := fun W tk en σ r H S Q er ro dn wh pins s I => by
  refine (pw_or (pt_wT X a) (pw_wW X _)).run wh pins s σ H Q I ?_
  refine ha W tk en σ r H S _ er ro (Dn.imp (Dn.bind dn) fun x H1 ⟨d, S1, r1, e1, s1, o1, k1, d1⟩ => ?_)
  have k1 : x = d := k1
  subst k1
  cases x with
  | false => exact hb W tk en σ r1 H1 S1 Q (er.mono s1) o1 d1
  | true => exact Dn.ok_here (R := RT) (a := true) (v := true) d1 o1 rfl
/-! ### and, or, not as values, by truth -/
def mAndV (m n : ME) : ME := fun en S => (m en S).bind fun d S1 => match truD d S1 with
  | some true => n en S1
  | some false => .ok d S1
  | none => .bad
def mOrV (m n : ME) : ME := fun en S => (m en S).bind fun d S1 => match truD d S1 with
  | some false => n en S1
  | some true => .ok d S1
  | none => .bad
def mNotV (m : ME) : ME := fun en S => (m en S).bind fun d S1 => match truD d S1 with
  | some b => .ok (.bl (!b)) S1
  | none => .bad
theorem e_one {op} (h : SndE X a ma) : SndE X (.BoolOp op [a] pos) ma := fun W tk en σ r H S Q er ro dn => wE_of (pe_one (pe_wE X a)) (h W tk en σ r H S Q er ro dn)
theorem e_and (ha : SndE X a ma) (hb : SndE X (.BoolOp .And (b :: rest) pos) mb) : SndE X (.BoolOp .And (a :: b :: rest) pos) (mAndV ma mb) := by
  intro W tk en σ r H S Q er ro dn
  refine wE_of (pe_andT (pe_wE X a) (pe_wE X _)) ?_
  refine ha W tk en σ r H S _ er ro (Dn.imp (Dn.bind dn) fun x H1 ⟨d, S1, r1, e1, s1, o1, k1, d1⟩ => ?_)
  cases q : truD d S1 with
  | none => rw [q] at d1; exact d1.elim
  | some k =>
    rw [q] at d1
    refine ⟨k, truD_ok o1 k1 q, ?_⟩
    cases k with
    | true => exact hb W tk en σ r1 H1 S1 Q (er.mono s1) o1 d1
    | false => exact Dn.ok_here (R := VR X.K) d1 o1 k1
theorem e_or (ha : SndE X a ma) (hb : SndE X (.BoolOp .Or (b :: rest) pos) mb) : SndE X (.BoolOp .Or (a :: b :: rest) pos) (mOrV ma mb) := by
  intro W tk en σ r H S Q er ro dn
  refine wE_of (pe_orT (pe_wE X a) (pe_wE X _)) ?_
  refine ha W tk en σ r H S _ er ro (Dn.imp (Dn.bind dn) fun x H1 ⟨d, S1, r1, e1, s1, o1, k1, d1⟩ => ?_)
  cases q : truD d S1 with
  | none => rw [q] at d1; exact d1.elim
  | some k =>
    rw [q] at d1
    refine ⟨k, truD_ok o1 k1 q, ?_⟩
    cases k with
    | false => exact hb W tk en σ r1 H1 S1 Q (er.mono s1) o1 d1
    | true => exact Dn.ok_here (R := VR X.K) d1 o1 k1
theorem e_not (ha : SndE X a ma) : SndE X (.UnaryOp .Not a pos) (mNotV ma) := by
  intro W tk en σ r H S Q er ro dn
  refine wE_of (pe_notT (pe_wE X a)) ?_
  refine ha W tk en σ r H S _ er ro (Dn.imp (Dn.bind dn) fun x H1 ⟨d, S1, r1, e1, s1, o1, k1, d1⟩ => ?_)
  cases q : truD d S1 with
  | none => rw [q] at d1; exact d1.elim
  | some k =>
    rw [q] at d1
    exact ⟨k, truD_ok o1 k1 q, Dn.ok_here (R := VR X.K) d1 o1 rfl⟩
/-- a if t else b -/
def mIf (mt : MT) (ma mb : ME) : ME := fun en S => (mt en S).bind fun k S1 => match k with
  | true => ma en S1
  | false => mb en S1
theorem e_if (hc : SndT X c mt) (ha : SndE X a ma) (hb : SndE X b mb) : SndE X (.IfExp c a b pos) (mIf mt ma mb) := by
  intro W tk en σ r H S Q er ro dn
  refine wE_of (pe_ifExp (pt_wT X c) (pe_wE X a) (pe_wE X b)) ?_
  refine hc W tk en σ r H S _ er ro (Dn.imp (Dn.bind dn) fun x H1 ⟨d, S1, r1, e1, s1, o1, k1, d1⟩ => ?_)
  have k1 : x = d := k1
  subst k1
  cases x with
  | true => exact ha W tk en σ r1 H1 S1 Q (er.mono s1) o1 d1
  | false => exact hb W tk en σ r1 H1 S1 Q (er.mono s1) o1 d1

/-! ### argument lists, displays -/
def mNil : MA := fun _ S => .ok [] S
def mCons (ma : ME) (mr : MA) : MA := fun en S => (ma en S).bind fun d S1 => (mr en S1).bind fun ds S2 => .ok (d :: ds) S2
def mTup (m : MA) : ME := fun en S => (m en S).bind fun ds S1 => if ds.length ≤ sizeLine then .ok (.tup ds) S1 else .bad
def mLst (m : MA) : ME := fun en S => (m en S).bind fun ds S1 => if ds.length ≤ sizeLine then .ok (.ref S1.length) (S1 ++ [.lst ds]) else .bad
/-- the items of a list or tuple -/
def itemsD (d : D) (S : Store) : Option (List D) := match d with
  | .tup xs => some xs
  | .kl xs => some xs
  | .ref n => match S[n]? with
    | some (.lst xs) => some xs
    | _ => none
  | _ => none
def mStar (ma : ME) (mr : MA) : MA := fun en S => (ma en S).bind fun d S1 => match itemsD d S1 with
  | some xs => (mr en S1).bind fun ds S2 => .ok (xs ++ ds) S2
  | none => .bad
theorem itemsD_ok {K : PySem.W.Frag} {r : List Addr} {H : Hp} {S : Store} {d : D} {x : V} {ds : List D} (ro : ROk K r H S) (h : VR K r H d x) (e : itemsD d S = some ds) : ∃ p vs, x = .ref p ∧ (SqL K H p vs ∨ SqT K H p vs) ∧ VRs K r H ds vs := by
  cases d with
  | tup xs =>
    obtain ⟨p, vs, rfl, hs, hv⟩ := h
    cases Option.some.inj e
    exact ⟨p, vs, rfl, .inr hs, hv⟩
  | kl xs =>
    obtain ⟨p, vs, rfl, hs, hv⟩ := h
    cases Option.some.inj e
    exact ⟨p, vs, rfl, .inl hs.l, hv⟩
  | ref n =>
    obtain ⟨p, hp, rfl⟩ := h
    unfold itemsD at e
    dsimp only at e
    cases q : S[n]? with
    | none => rw [q] at e; cases e
    | some o =>
      rw [q] at e
      have ho := ro.ob n o p q hp
      cases o with
      | lst xs => obtain ⟨vs, h1, h2⟩ := ho; cases Option.some.inj e; exact ⟨p, vs, rfl, .inl (.of h1), h2⟩
      | _ => cases e
  | _ => cases e
variable {e : Expr} {es : List Expr} {mr : MA} {me : ME} {p : Pos}
theorem a_nil : SndA X [] mNil := fun W tk en σ r H S Q er ro dn => wA_of pa_nil (Dn.ok_here (R := VRs X.K) (a := []) (v := []) dn ro rfl)
theorem a_cons (ha : SndE X e me) (hr : SndA X es mr) (hs : starEach (e :: es) X.env = (false, eval e X.env) :: starEach es X.env := by rfl) : SndA X (e :: es) (mCons me mr) := by
  intro W tk en σ r H S Q er ro dn
  refine wA_of (pa_cons (pe_wE X e) (pa_wA X es) hs) ?_
  refine ha W tk en σ r H S _ er ro (Dn.imp (Dn.bind dn) fun x H1 ⟨d, S1, r1, e1, s1, o1, k1, d1⟩ => ?_)
  refine hr W tk en σ r1 H1 S1 _ (er.mono s1) o1 (Dn.imp (Dn.bind d1) fun xs H2 ⟨ds, S2, r2, e2, s2, o2, k2, d2⟩ => ?_)
  exact Dn.ok_here (R := VRs X.K) d2 o2 ⟨x, xs, rfl, k1.mono s2, k2⟩
theorem a_star (ha : SndE X e me) (hr : SndA X es mr) (hs : starEach (.Starred e p :: es) X.env = (true, eval e X.env) :: starEach es X.env := by rfl) : SndA X (.Starred e p :: es) (mStar me mr) := by
  intro W tk en σ r H S Q er ro dn
  refine wA_of (StX.pa_star (pe_wE X e) (pa_wA X es) hs) ?_
  refine ha W tk en σ r H S _ er ro (Dn.imp (Dn.bind dn) fun x H1 ⟨d, S1, r1, e1, s1, o1, k1, d1⟩ => ?_)
  cases q : itemsD d S1 with
  | none => rw [q] at d1; exact d1.elim
  | some xs =>
    rw [q] at d1
    obtain ⟨pa, vs, rfl, hq, hv⟩ := itemsD_ok o1 k1 q
    refine ⟨pa, vs, rfl, ?_, ?_⟩
    · rcases hq with h | h
      · exact .inr h
      · exact .inl h
    · refine hr W tk en σ r1 H1 S1 _ (er.mono s1) o1 (Dn.imp (Dn.bind d1) fun ws H2 ⟨ds, S2, r2, e2, s2, o2, k2, d2⟩ => ?_)
      exact Dn.ok_here (R := VRs X.K) d2 o2 ((hv.mono s2).append k2)
theorem dn_if {α β : Type} {K : PySem.W.Frag} {r : List Addr} {H : Hp} {R : List Addr → Hp → α → β → Prop} {c : Prop} [Decidable c] {m : Res α} {Q : β → Hp → Prop} {W : XK} (h : Dn K r H R (if c then m else .bad) Q W) : c ∧ Dn K r H R m Q W := by
  by_cases hc : c
  · rw [if_pos hc] at h; exact ⟨hc, h⟩
  · rw [if_neg hc] at h; exact h.elim
theorem e_tup {x1} (h : SndA X es mr) : SndE X (.Tuple es x1 pos) (mTup mr) := by
  intro W tk en σ r H S Q er ro dn
  refine wE_of (pe_tup (pa_wA X es)) ?_
  refine h W tk en σ r H S _ er ro (Dn.imp (Dn.bind dn) fun xs H1 ⟨ds, S1, r1, e1, s1, o1, k1, d1⟩ => ?_)
  obtain ⟨hz, d1⟩ := dn_if d1
  refine ⟨by rw [← k1.length]; exact hz, fun q hq => ?_⟩
  exact d1 r1 _ _ (Stp.loose hq) (o1.loose hq) ⟨q, xs, rfl, .of upd_same, k1.mono (Stp.loose hq)⟩
theorem new_lst {r : List Addr} {H : Hp} {S : Store} {ds : List D} {vs : List V} {q : Addr} (o : ROk X.K r H S) (k : VRs X.K r H ds vs) (hq : H q = none) :
    Stp r H (r ++ [q]) (upd H q (.lst vs)) ∧ ROk X.K (r ++ [q]) (upd H q (.lst vs)) (S ++ [.lst ds]) ∧ VR X.K (r ++ [q]) (upd H q (.lst vs)) (.ref S.length) (.ref q) :=
  ⟨Stp.new hq, o.new hq ⟨vs, upd_same, k.mono (Stp.new hq)⟩, ⟨q, by rw [← o.len, List.getElem?_append_right (Nat.le_refl _), Nat.sub_self]; rfl, rfl⟩⟩
theorem e_lst (h : SndA X es mr) : SndE X (.List es pos) (mLst mr) := by
  intro W tk en σ r H S Q er ro dn
  refine wE_of (pe_lst (pa_wA X es)) ?_
  refine h W tk en σ r H S _ er ro (Dn.imp (Dn.bind dn) fun xs H1 ⟨ds, S1, r1, e1, s1, o1, k1, d1⟩ => ?_)
  obtain ⟨hz, d1⟩ := dn_if d1
  refine ⟨by rw [← k1.length]; exact hz, fun q hq => ?_⟩
  obtain ⟨n1, n2, n3⟩ := new_lst o1 k1 hq
  exact d1 _ _ _ n1 n2 n3
end
end Q

namespace Q
open PySem PySem.Spec PyProof.Rows L2
section
variable {X : Cx}
abbrev oB (b : Bool) (S : Store) : Option (D × Store) := some (.bl b, S)
abbrev oI (i : Int) (S : Store) : Option (D × Store) := some (.int i, S)
/-- a value that needs no heap, the store as it was -/
theorem Ed.flat {K : PySem.W.Frag} {r : List Addr} {H : Hp} {z : D} {v : V} {S : Store} {Q : VK} (ed : Ed K r H z S Q) (ro : ROk K r H S) (k : VR K r H z v) : Q v H := ed r H v (Stp.refl _ _) ro k
theorem Ed.tupN {K : PySem.W.Frag} {r : List Addr} {H : Hp} {xs : List D} {vs : List V} {S : Store} {Q : VK} {p : Addr} (ed : Ed K r H (.tup xs) S Q) (ro : ROk K r H S) (k : VRs K r H xs vs) (hp : H p = none) : Q (.ref p) (upd H p (.tup vs)) :=
  ed r _ _ (Stp.loose hp) (ro.loose hp) ⟨p, vs, rfl, .of upd_same, k.mono (Stp.loose hp)⟩
theorem Ed.lstN {r : List Addr} {H : Hp} {xs : List D} {vs : List V} {S : Store} {Q : VK} {p : Addr} (ed : Ed X.K r H (.ref S.length) (S ++ [.lst xs]) Q) (ro : ROk X.K r H S) (k : VRs X.K r H xs vs) (hp : H p = none) : Q (.ref p) (upd H p (.lst vs)) := by
  obtain ⟨a, b, c⟩ := new_lst ro k hp
  exact ed _ _ _ a b c
theorem wO_of {f : Value → Value → Sem Value} {rd : R2} (h : OpR X f rd) {x y : V} {H : Hp} {Q : VK} (q : rd x y H Q) : wO X f x y H Q := fun pins s σ v u I rx ry => h pins s σ H x y v u Q I rx ry q
theorem wU_of {f : Value → Sem Value} {rd : V → Hp → VK → Prop} (h : UnR X f rd) {x : V} {H : Hp} {Q : VK} (q : rd x H Q) : wU X f x H Q := fun pins s σ v I rx => h pins s σ H x v Q I rx q
theorem wC_of {f : Value} {rd : List V → Hp → VK → Prop} (h : CallR X f rd) {xs : List V} {H : Hp} {Q : VK} (q : rd xs H Q) : wC X f xs H Q := fun pins s σ us I r => h pins s σ H xs us Q I r q

/-! ### ints -/
def intD : D → Option Int
  | .int i => some i
  | _ => none
theorem intD_ok {K : PySem.W.Frag} {r : List Addr} {H : Hp} {d : D} {x : V} {i : Int} (e : intD d = some i) (k : VR K r H d x) : x = .int i := by
  cases d <;> first | (cases e; exact k) | cases e
/-- two ints under a condition -/
def gI (c : Int → Int → Bool) (f : Int → Int → D) : G2 := fun d e S => (intD d).bind fun i => (intD e).bind fun j => if c i j then some (f i j, S) else none
theorem gI_ok {c : Int → Int → Bool} {f : Int → Int → D} {d e z : D} {S S' : Store} (h : gI c f d e S = some (z, S')) : ∃ i j, d = .int i ∧ e = .int j ∧ c i j = true ∧ z = f i j ∧ S' = S := by
  unfold gI at h
  cases d with
  | int i =>
    cases e with
    | int j =>
      simp only [intD, Option.bind_some] at h
      by_cases hc : c i j = true
      · rw [if_pos hc] at h
        cases h
        exact ⟨i, j, rfl, rfl, hc, rfl, rfl⟩
      · rw [if_neg hc] at h; cases h
    | _ => simp [intD] at h
  | _ => simp [intD] at h
theorem opI_of {f : Value → Value → Sem Value} {C : Int → Int → Prop} {g : Int → Int → V} {c : Int → Int → Bool} {gd : Int → Int → D} (h : OpR X f (rI C g)) (hc : ∀ i j, c i j = true → C i j) (hg : ∀ i j r H, VR X.K r H (gd i j) (g i j)) : OpD X f (gI c gd) := by
  intro d e z x y r H S S' Q q k1 k2 ro ed
  obtain ⟨i, j, rfl, rfl, hcc, rfl, rfl⟩ := gI_ok q
  exact wO_of h ⟨i, j, k1, k2, hc i j hcc, ed.flat ro (hg i j r H)⟩
theorem opI0_of {f : Value → Value → Sem Value} {g : Int → Int → V} {gd : Int → Int → D} (h : OpR X f (rI0 g)) (hg : ∀ i j r H, VR X.K r H (gd i j) (g i j)) : OpD X f (gI (fun _ _ => true) gd) := by
  intro d e z x y r H S S' Q q k1 k2 ro ed
  obtain ⟨i, j, rfl, rfl, hcc, rfl, rfl⟩ := gI_ok q
  exact wO_of h ⟨i, j, k1, k2, ed.flat ro (hg i j r H)⟩
def yes2 (_ _ : Int) : Bool := true
def gLt : G2 := gI yes2 fun i j => .bl (decide (i < j))
def gLe : G2 := gI yes2 fun i j => .bl (decide (i ≤ j))
def gGt : G2 := gI yes2 fun i j => .bl (decide (j < i))
def gGe : G2 := gI yes2 fun i j => .bl (decide (j ≤ i))
def gSub : G2 := gI yes2 fun i j => .int (i - j)
theorem o_lt : OpD X (compareOp .Lt) gLt := opI0_of op_lt fun _ _ _ _ => rfl
theorem o_le : OpD X (compareOp .LtE) gLe := opI0_of op_le fun _ _ _ _ => rfl
theorem o_gt : OpD X (compareOp .Gt) gGt := opI0_of op_gt fun _ _ _ _ => rfl
theorem o_ge : OpD X (compareOp .GtE) gGe := opI0_of op_ge fun _ _ _ _ => rfl
theorem o_sub : OpD X (binaryOp .Sub) gSub := opI0_of op_sub fun _ _ _ _ => rfl
def gMod : G2 := gI (fun _ j => decide (0 < j)) fun i j => .int (i % j)
theorem o_mod : OpD X (binaryOp .Mod) gMod := opI_of op_mod (fun i j h => of_decide_eq_true h) fun _ _ _ _ => rfl
def gDiv : G2 := gI (fun _ j => decide (0 < j) && decide (j.natAbs.log2 < 9000)) fun i j => .int (i / j)
theorem o_div : OpD X (binaryOp .FloorDiv) gDiv := opI_of op_fdivW (fun i j h => by
  rw [Bool.and_eq_true] at h
  exact ⟨of_decide_eq_true h.1, of_decide_eq_true h.2⟩) fun _ _ _ _ => rfl
def gPow : G2 := gI (fun i j => decide (0 ≤ j) && decide (j ≤ 1000000) && decide (i.natAbs < 2 ^ 64)) fun i j => .int (i ^ j.toNat)
theorem o_pow : OpD X (binaryOp .Pow) gPow := opI_of op_pow (fun i j h => by
  rw [Bool.and_eq_true, Bool.and_eq_true] at h
  exact ⟨of_decide_eq_true h.1.1, of_decide_eq_true h.1.2, of_decide_eq_true h.2⟩) fun _ _ _ _ => rfl
def gNeg : G1 := fun d S => (intD d).bind fun i => some (.int (-i), S)
theorem o_neg : UnD X (unaryOp .USub) gNeg := by
  intro d z x r H S S' Q q k ro ed
  unfold gNeg at q
  cases d with
  | int i => cases q; exact wU_of un_neg ⟨i, k, ed.flat ro rfl⟩
  | _ => cases q

/-! ### + and * of several kinds -/
def lstD (d : D) (S : Store) : Option (List D) := match d with
  | .ref n => match S[n]? with
    | some (.lst xs) => some xs
    | _ => none
  | _ => none
theorem lstD_ok {K : PySem.W.Frag} {r : List Addr} {H : Hp} {S : Store} {d : D} {x : V} {ds : List D} (ro : ROk K r H S) (h : VR K r H d x) (e : lstD d S = some ds) : ∃ n p vs, d = .ref n ∧ r[n]? = some p ∧ x = .ref p ∧ H p = some (.lst vs) ∧ S[n]? = some (.lst ds) ∧ VRs K r H ds vs := by
  cases d with
  | ref n =>
    obtain ⟨p, hp, rfl⟩ := h
    unfold lstD at e
    dsimp only at e
    cases q : S[n]? with
    | none => rw [q] at e; cases e
    | some o =>
      rw [q] at e
      have ho := ro.ob n o p q hp
      cases o with
      | lst xs => obtain ⟨vs, h1, h2⟩ := ho; cases Option.some.inj e; exact ⟨n, p, vs, rfl, hp, rfl, h1, q, h2⟩
      | _ => cases e
  | _ => cases e
def lstP (ds : List D) (S : Store) : Option (D × Store) := if ds.length ≤ sizeLine then some (.ref S.length, S ++ [.lst ds]) else none
def tupP (ds : List D) (S : Store) : Option (D × Store) := if ds.length ≤ sizeLine then some (.tup ds, S) else none
def strP (x : Str) (S : Store) : Option (D × Store) := if x.length ≤ sizeLine then some (.str x, S) else none
def gAdd : G2 := fun d e S => match d, e with
  | .int i, .int j => some (.int (i + j), S)
  | .str x, .str y => if x.length + y.length ≤ sizeLine then some (.str (x ++ y), S) else none
  | .tup xs, .tup ys => if xs.length + ys.length ≤ sizeLine then some (.tup (xs ++ ys), S) else none
  | .ref m, .ref n => (lstD (.ref m) S).bind fun xs => (lstD (.ref n) S).bind fun ys => if xs.length + ys.length ≤ sizeLine then some (.ref S.length, S ++ [.lst (xs ++ ys)]) else none
  | _, _ => none
theorem o_add : OpD X (binaryOp .Add) gAdd := by
  intro d e z x y r H S S' Q q k1 k2 ro ed
  unfold gAdd at q
  split at q
  · cases q; exact wO_of op_add ⟨_, _, k1, k2, ed.flat ro rfl⟩
  · split at q
    · rename_i hz; cases q; exact wO_of op_add_str ⟨_, _, k1, k2, hz, ed.flat ro rfl⟩
    · cases q
  · rename_i xs ys
    split at q
    · rename_i hz; cases q
      obtain ⟨a, vs, rfl, ha, hv⟩ := k1
      obtain ⟨b, ws, rfl, hb, hw⟩ := k2
      have l1 := hv.length
      have l2 := hw.length
      refine wO_of op_catA ⟨a, b, vs, ws, rfl, rfl, ha, hb, by omega, fun e1 => ?_, fun _ e2 => ?_, fun _ _ p hp => ed.tupN ro (hv.append hw) hp⟩
      · subst e1
        have : xs = [] := by cases xs with | nil => rfl | cons _ _ => simp at l1
        subst this
        exact ed.flat ro ⟨b, ws, rfl, hb, hw⟩
      · subst e2
        have : ys = [] := by cases ys with | nil => rfl | cons _ _ => simp at l2
        subst this
        exact ed.flat ro ⟨a, vs, rfl, ha, by rw [List.append_nil]; exact hv⟩
    · cases q
  · cases e1 : lstD (.ref _) S with
    | none => rw [e1] at q; cases q
    | some xs =>
      rw [e1] at q
      simp only [Option.bind_some] at q
      cases e2 : lstD (.ref _) S with
      | none => rw [e2] at q; cases q
      | some ys =>
        rw [e2] at q
        simp only [Option.bind_some] at q
        split at q
        · rename_i hz; cases q
          obtain ⟨n1, p1, vs, _, _, rfl, h1, _, hv⟩ := lstD_ok ro k1 e1
          obtain ⟨n2, p2, ws, _, _, rfl, h2, _, hw⟩ := lstD_ok ro k2 e2
          have l1 := hv.length
          have l2 := hw.length
          exact wO_of op_cat ⟨p1, p2, vs, ws, rfl, rfl, h1, h2, by omega, fun p hp => ed.lstN ro (hv.append hw) hp⟩
        · cases q
  · cases q
theorem VRs.rep {K : PySem.W.Frag} {r : List Addr} {H : Hp} {ds : List D} {vs : List V} (h : VRs K r H ds vs) : ∀ k, VRs K r H (List.replicate k ds).flatten (List.replicate k vs).flatten
  | 0 => rfl
  | k + 1 => by
    rw [List.replicate_succ, List.replicate_succ, List.flatten_cons, List.flatten_cons]
    exact h.append (h.rep k)
def gMul : G2 := fun d e S => match d, e with
  | .int i, .int j => if i.natAbs.log2 + j.natAbs.log2 < 1000000 then some (.int (i * j), S) else none
  | .ref m, .int k => (lstD (.ref m) S).bind fun xs => if 0 ≤ k ∧ k < 100000 ∧ xs.length * k.toNat ≤ sizeLine then some (.ref S.length, S ++ [.lst (List.replicate k.toNat xs).flatten]) else none
  | .tup xs, .int k => if xs ≠ [] ∧ 2 ≤ k ∧ k ≤ 1000 ∧ xs.length ≤ 1000 then some (.tup (List.replicate k.toNat xs).flatten, S) else none
  | _, _ => none
theorem o_mul : OpD X (binaryOp .Mult) gMul := by
  intro d e z x y r H S S' Q q k1 k2 ro ed
  unfold gMul at q
  split at q
  · split at q
    · rename_i hz; cases q; exact wO_of op_mulW ⟨_, _, k1, k2, hz, ed.flat ro rfl⟩
    · cases q
  · rename_i m k
    cases e1 : lstD (.ref m) S with
    | none => rw [e1] at q; cases q
    | some xs =>
      rw [e1] at q
      simp only [Option.bind_some] at q
      split at q
      · rename_i hz; cases q
        obtain ⟨n1, p1, vs, _, _, rfl, h1, _, hv⟩ := lstD_ok ro k1 e1
        have l1 := hv.length
        refine wO_of op_rep ⟨p1, k, vs, rfl, k2, h1, by omega, by omega, by rw [← l1]; exact hz.2.2, fun p hp => ?_⟩
        exact ed.lstN ro (hv.rep _) hp
      · cases q
  · rename_i xs k
    split at q
    · rename_i hz; cases q
      obtain ⟨a, vs, rfl, ha, hv⟩ := k1
      have l1 := hv.length
      refine wO_of op_repT ⟨a, k, vs, rfl, k2, ha, fun e => ?_, hz.2.1, hz.2.2.1, by rw [← l1]; exact hz.2.2.2, fun p hp => ed.tupN ro (hv.rep _) hp⟩
      subst e
      apply hz.1
      cases xs with | nil => rfl | cons _ _ => simp at l1
    · cases q
  · cases q

/-! ### is, is not -/
def gIs : G2 := fun d e S => match d, e with
  | .bl a, .bl b => some (.bl (decide (a = b)), S)
  | .non, .non => some (.bl true, S)
  | .bl _, .non | .int _, .non | .str _, .non | .tup _, .non | .ref _, .non | .ty _, .non | .adr _, .non | .kl _, .non => some (.bl false, S)
  | _, _ => none
def gIsNot : G2 := fun d e S => match d, e with
  | .bl a, .bl b => some (.bl (!decide (a = b)), S)
  | .non, .non => some (.bl false, S)
  | .bl _, .non | .int _, .non | .str _, .non | .tup _, .non | .ref _, .non | .ty _, .non | .adr _, .non | .kl _, .non => some (.bl true, S)
  | _, _ => none
theorem VR.notNone {K : PySem.W.Frag} {r : List Addr} {H : Hp} {d : D} {x : V} (k : VR K r H d x) (h : d ≠ .non) : x ≠ .non := by
  cases d with
  | non => exact absurd rfl h
  | bl b => have k : x = .bl b := k; subst k; exact fun z => nomatch z
  | int b => have k : x = .int b := k; subst k; exact fun z => nomatch z
  | str b => have k : x = .str b := k; subst k; exact fun z => nomatch z
  | ty b => have k : x = .ty b := k; subst k; exact fun z => nomatch z
  | adr b => have k : x = .ref b := k; subst k; exact fun z => nomatch z
  | tup b => obtain ⟨a, vs, rfl, _⟩ := k; exact fun z => nomatch z
  | kl b => obtain ⟨a, vs, rfl, _⟩ := k; exact fun z => nomatch z
  | ref b => obtain ⟨a, _, rfl⟩ := k; exact fun z => nomatch z
theorem o_is : OpD X (compareOp .Is) gIs := by
  intro d e z x y r H S S' Q q k1 k2 ro ed
  unfold gIs at q
  split at q
  · cases q; exact wO_of op_isBl ⟨_, _, k1, k2, ed.flat ro rfl⟩
  · cases q
    have k1 : x = .non := k1
    subst k1
    exact wO_of op_isN ⟨k2, ed.flat ro rfl⟩
  all_goals first
    | (cases q
       exact wO_of op_isN ⟨k2, by rw [decide_eq_false (k1.notNone (fun z => nomatch z))]; exact ed.flat ro rfl⟩)
    | cases q
theorem o_isnot : OpD X (compareOp .IsNot) gIsNot := by
  intro d e z x y r H S S' Q q k1 k2 ro ed
  unfold gIsNot at q
  split at q
  · cases q; exact wO_of op_notBl ⟨_, _, k1, k2, ed.flat ro rfl⟩
  · cases q
    have k1 : x = .non := k1
    subst k1
    exact wO_of op_notN ⟨k2, ed.flat ro rfl⟩
  all_goals first
    | (cases q
       exact wO_of op_notN ⟨k2, by rw [decide_eq_false (k1.notNone (fun z => nomatch z))]; exact ed.flat ro rfl⟩)
    | cases q

/-! ### data as a whole: ==, != -/
def toPy (S : Store) : Nat → D → Option PyData
  | _, .non => some .none
  | _, .bl b => some (.bool b)
  | _, .int i => some (.int i)
  | _, .str x => some (.str x)
  | n + 1, .tup xs => (xs.mapM (toPy S n)).map .tuple
  | n + 1, .kl xs => (xs.mapM (toPy S n)).map .list
  | n + 1, .ref m => match S[m]? with
    | some (.lst xs) => (xs.mapM (toPy S n)).map .list
    | _ => none
  | _, _ => none
end
section
variable {X : Cx} {pins : List (Addr × Obj)} {σ : L2.St} {r : List Addr} {H : Hp} {s : Shared} {S : Store}
theorem readsAll_of {f : D → Option PyData} (hf : ∀ (d : D) (p : PyData) (v : V) (u : Value), f d = some p → VR X.K r H d v → RelV v u → ∃ as, Reads s.heap u p as) :
    ∀ (xs : List D) (ps : List PyData) (vs : List V) (us : List Value), xs.mapM f = some ps → VRs X.K r H xs vs → Vals vs us → ∃ as, ReadsAll s.heap us ps as
  | [], ps, vs, us, e, h, rv => by
    have h : vs = [] := h
    subst h
    cases rv
    simp at e
    subst e
    exact ⟨_, ReadsAll.nil⟩
  | d :: xs, ps, vs, us, e, h, rv => by
    obtain ⟨v, ws, rfl, h1, h2⟩ := h
    cases rv with
    | cons r1 r2 =>
      rw [List.mapM_cons] at e
      cases e1 : f d with
      | none => rw [e1] at e; cases e
      | some p =>
        rw [e1] at e
        cases e2 : xs.mapM f with
        | none => rw [e2] at e; cases e
        | some qs =>
          rw [e2] at e
          cases e
          obtain ⟨as, q1⟩ := hf d p v _ e1 h1 r1
          obtain ⟨bs, q2⟩ := readsAll_of hf xs qs ws _ e2 h2 r2
          exact ⟨_, ReadsAll.cons q1 q2⟩
theorem toPy_reads (I : Inv X pins σ H s) (ro : ROk X.K r H S) : ∀ (n : Nat) (d : D) (p : PyData) (v : V) (u : Value), toPy S n d = some p → VR X.K r H d v → RelV v u → ∃ as, Reads s.heap u p as := by
  intro n
  induction n with
  | zero =>
    intro d p v u e k rv
    cases d with
    | non => cases e; have k : v = .non := k; subst k; cases rv; exact ⟨_, Reads.none⟩
    | bl b => cases e; have k : v = .bl b := k; subst k; cases rv; exact ⟨_, Reads.bool b⟩
    | int i => cases e; have k : v = .int i := k; subst k; obtain ⟨t, rfl⟩ := rv; exact ⟨_, Reads.int i t⟩
    | str i => cases e; have k : v = .str i := k; subst k; obtain ⟨t, rfl⟩ := rv; exact ⟨_, Reads.str i t⟩
    | _ => cases e
  | succ n ih =>
    intro d p v u e k rv
    have lists : ∀ (xs : List D) (a : Addr) (vs : List V), (xs.mapM (toPy S n)).map PyData.list = some p → SqL X.K H a vs → VRs X.K r H xs vs → v = .ref a → ∃ as, Reads s.heap u p as := fun xs a vs e hs hv ev => by
      subst ev
      cases rv
      obtain ⟨its, rvv, ⟨o, n', ho, hc, _, hd⟩, _⟩ := I.list hs
      cases e2 : xs.mapM (toPy S n) with
      | none => rw [e2] at e; cases e
      | some ps =>
        rw [e2] at e; cases e
        obtain ⟨as, hr⟩ := readsAll_of (s := s) ih xs ps vs its e2 hv rvv
        exact ⟨_, Reads.list ho hc hd hr⟩
    cases d with
    | non => cases e; have k : v = .non := k; subst k; cases rv; exact ⟨_, Reads.none⟩
    | bl b => cases e; have k : v = .bl b := k; subst k; cases rv; exact ⟨_, Reads.bool b⟩
    | int i => cases e; have k : v = .int i := k; subst k; obtain ⟨t, rfl⟩ := rv; exact ⟨_, Reads.int i t⟩
    | str i => cases e; have k : v = .str i := k; subst k; obtain ⟨t, rfl⟩ := rv; exact ⟨_, Reads.str i t⟩
    | tup xs =>
      obtain ⟨a, vs, rfl, hs, hv⟩ := k
      cases rv
      obtain ⟨its, rvv, ⟨o, ho, hc, n', hd⟩, _⟩ := I.tuple hs
      have e : (xs.mapM (toPy S n)).map PyData.tuple = some p := e
      cases e2 : xs.mapM (toPy S n) with
      | none => rw [e2] at e; cases e
      | some ps =>
        rw [e2] at e; cases e
        obtain ⟨as, hr⟩ := readsAll_of (s := s) ih xs ps vs its e2 hv rvv
        exact ⟨_, Reads.tuple ho hc hd hr⟩
    | kl xs =>
      obtain ⟨a, vs, rfl, hs, hv⟩ := k
      exact lists xs a vs e hs.l hv rfl
    | ref m =>
      obtain ⟨a, ha, rfl⟩ := k
      unfold toPy at e
      cases q : S[m]? with
      | none => rw [q] at e; cases e
      | some o =>
        rw [q] at e
        have oo := ro.ob m o a q ha
        cases o with
        | lst xs => obtain ⟨vs, h1, h2⟩ := oo; exact lists xs a vs e (.of h1) h2 rfl
        | _ => cases e
    | _ => cases e
def pyD (S : Store) (d : D) : Option PyData := toPy S 64 d
def eqPD (d e : D) (S : Store) : Option Bool := (pyD S d).bind fun p => (pyD S e).bind fun q => if SeqAt.shaped p = true ∧ SeqAt.shaped q = true then some (PyData.eqv p q) else none
theorem eqPD_ok {d e : D} {b : Bool} (h : eqPD d e S = some b) : ∃ p q, pyD S d = some p ∧ pyD S e = some q ∧ SeqAt.shaped p = true ∧ SeqAt.shaped q = true ∧ b = PyData.eqv p q := by
  unfold eqPD at h
  cases h1 : pyD S d with
  | none => rw [h1] at h; cases h
  | some p =>
    rw [h1] at h
    cases h2 : pyD S e with
    | none => rw [h2] at h; cases h
    | some q =>
      rw [h2] at h
      simp only [Option.bind_some] at h
      split at h
      · rename_i hc; cases h; exact ⟨p, q, rfl, rfl, hc.1, hc.2, rfl⟩
      · cases h
def eqP (d e : D) (S : Store) : Option Bool := match d, e with
  | .str x, .str y => some (decide (x = y))
  | _, _ => eqPD d e S
theorem eqP_ok {d e : D} {b : Bool} (h : eqP d e S = some b) : (∃ x y, d = .str x ∧ e = .str y ∧ b = decide (x = y)) ∨ ∃ p q, pyD S d = some p ∧ pyD S e = some q ∧ SeqAt.shaped p = true ∧ SeqAt.shaped q = true ∧ b = PyData.eqv p q := by
  unfold eqP at h
  split at h
  · cases h; exact .inl ⟨_, _, rfl, rfl, rfl⟩
  · exact .inr (eqPD_ok h)
def gEq : G2 := fun d e S => (eqP d e S).map fun b => (.bl b, S)
def gNe : G2 := fun d e S => (eqP d e S).map fun b => (.bl (!b), S)
theorem o_eq (hu : X.A.units + 64 < cLine) : OpD X (compareOp .Eq) gEq := by
  intro d e z x y r H S S' Q q k1 k2 ro ed
  unfold gEq at q
  cases h : eqP d e S with
  | none => rw [h] at q; cases q
  | some b =>
    rw [h] at q; cases q
    rcases eqP_ok h with ⟨x', y', rfl, rfl, rfl⟩ | ⟨p, q, h1, h2, s1, s2, rfl⟩
    · have k1 : x = .str x' := k1
      have k2 : y = .str y' := k2
      subst k1; subst k2
      refine wO_of op_eq ⟨rfl, ?_⟩
      refine ed.flat ro ?_
      show V.bl _ = V.bl _
      congr 1
      simp
    · intro pins s σ v u I rx ry
      obtain ⟨as, r1⟩ := toPy_reads I ro 64 d p x v h1 k1 rx
      obtain ⟨bs, r2⟩ := toPy_reads I ro 64 e q y u h2 k2 ry
      exact SeqAt.compareEq_shaped r1 r2 s1 s2 hu ⟨.bl _, H, I, rfl, ed.flat ro rfl⟩
theorem o_ne (hu : X.A.units + 64 < cLine) : OpD X (compareOp .NotEq) gNe := by
  intro d e z x y r H S S' Q q k1 k2 ro ed
  unfold gNe at q
  cases h : eqP d e S with
  | none => rw [h] at q; cases q
  | some b =>
    rw [h] at q; cases q
    rcases eqP_ok h with ⟨x', y', rfl, rfl, rfl⟩ | ⟨p, q, h1, h2, s1, s2, rfl⟩
    · have k1 : x = .str x' := k1
      have k2 : y = .str y' := k2
      subst k1; subst k2
      refine wO_of op_ne ⟨rfl, ?_⟩
      refine ed.flat ro ?_
      show V.bl _ = V.bl _
      congr 1
      simp
    · intro pins s σ v u I rx ry
      obtain ⟨as, r1⟩ := toPy_reads I ro 64 d p x v h1 k1 rx
      obtain ⟨bs, r2⟩ := toPy_reads I ro 64 e q y u h2 k2 ry
      exact SeqAt.compareNe_shaped r1 r2 s1 s2 hu ⟨.bl _, H, I, rfl, ed.flat ro rfl⟩
end
end Q

namespace Q
open PySem PySem.Spec PyProof.Rows L2
structure Gd (X : Cx) (k : Nat) : Prop where
  calm : X.calm = true
  room : Room k X.A
  gd : X.A.guards = some []
section
variable {X : Cx} {k : Nat}
/-! ### calls of built-ins by name -/
def mCall (g : GN) (m : MA) : ME := fun en S => (m en S).bind fun ds S1 => ofOpt (g ds S1)
section
variable {x : Str} {p pos : Pos} {e : Expr} {es : List Expr} {id T : String} {g : GN} {m : MA}
theorem e_callB (hc : CallD X (.builtin id) g) (hg : Gl X x) (hm : X.mg x = none) (hv : bootBuiltins x = some (.builtin id)) (ha : SndA X (e :: es) m) (hn : x ≠ "__name__" := by decide) (hdb : (x == ("__debug__" : Str)) = false := by decide)
    (he : starEach (e :: es) X.env = (false, eval e X.env) :: starEach es X.env := by rfl) (hpl : (backTo pos (starEach es X.env)).any (·.1) = false := by rfl) : SndE X (.Call (.Name x p) (e :: es) [] pos) (mCall g m) := by
  intro W tk en σ r H S Q er ro dn
  refine wE_of (pe_callB (callr_wC X _) hg hm hv (pa_wA X _) hn hdb he hpl) ?_
  refine ha W tk en σ r H S _ er ro (Dn.imp (Dn.bind dn) fun xs H1 ⟨ds, S1, r1, e1, s1, o1, k1, d1⟩ => ?_)
  obtain ⟨z, S', g1, ed⟩ := dn_ofOpt d1
  exact hc ds z xs r1 H1 S1 S' Q g1 k1 o1 ed
theorem e_callT (hc : CallD X (.type T) g) (hg : Gl X x) (hm : X.mg x = none) (hv : bootBuiltins x = some (.type T)) (ha : SndA X (e :: es) m) (hn : x ≠ "__name__" := by decide) (hdb : (x == ("__debug__" : Str)) = false := by decide)
    (he : starEach (e :: es) X.env = (false, eval e X.env) :: starEach es X.env := by rfl) (hpl : (backTo pos (starEach es X.env)).any (·.1) = false := by rfl) : SndE X (.Call (.Name x p) (e :: es) [] pos) (mCall g m) := by
  intro W tk en σ r H S Q er ro dn
  refine wE_of (pe_callTy (callr_wC X _) hg hm hv (pa_wA X _) hn hdb he hpl) ?_
  refine ha W tk en σ r H S _ er ro (Dn.imp (Dn.bind dn) fun xs H1 ⟨ds, S1, r1, e1, s1, o1, k1, d1⟩ => ?_)
  obtain ⟨z, S', g1, ed⟩ := dn_ofOpt d1
  exact hc ds z xs r1 H1 S1 S' Q g1 k1 o1 ed
end
/-- one argument -/
def g1N (g : G1) : GN := fun ds S => match ds with
  | [d] => g d S
  | _ => none
def g2N (g : G2) : GN := fun ds S => match ds with
  | [d, e] => g d e S
  | _ => none
theorem g1N_ok {g : G1} {ds : List D} {S : Store} {z : D} {S' : Store} (h : g1N g ds S = some (z, S')) : ∃ d, ds = [d] ∧ g d S = some (z, S') := by
  match ds, h with
  | [d], h => exact ⟨d, rfl, h⟩
  | [], h => cases h
  | _ :: _ :: _, h => cases h
theorem g2N_ok {g : G2} {ds : List D} {S : Store} {z : D} {S' : Store} (h : g2N g ds S = some (z, S')) : ∃ d e, ds = [d, e] ∧ g d e S = some (z, S') := by
  match ds, h with
  | [d, e], h => exact ⟨d, e, rfl, h⟩
  | [], h => cases h
  | [_], h => cases h
  | _ :: _ :: _ :: _, h => cases h
theorem VRs.one_inv {K : PySem.W.Frag} {r : List Addr} {H : Hp} {d : D} {vs : List V} (h : VRs K r H [d] vs) : ∃ v, vs = [v] ∧ VR K r H d v := by
  obtain ⟨v, ws, rfl, h1, h2⟩ := h
  have h2 : ws = [] := h2
  subst h2
  exact ⟨v, rfl, h1⟩
theorem VRs.two_inv {K : PySem.W.Frag} {r : List Addr} {H : Hp} {d e : D} {vs : List V} (h : VRs K r H [d, e] vs) : ∃ v w, vs = [v, w] ∧ VR K r H d v ∧ VR K r H e w := by
  obtain ⟨v, ws, rfl, h1, h2⟩ := h
  obtain ⟨w, rfl, h3⟩ := h2.one_inv
  exact ⟨v, w, rfl, h1, h3⟩
/-- a call of one argument -/
def Call1D (X : Cx) (f : Value) (g : G1) : Prop := ∀ (d z : D) (x : V) (r : List Addr) (H : Hp) (S S' : Store) (Q : VK), g d S = some (z, S') → VR X.K r H d x → ROk X.K r H S → Ed X.K r H z S' Q → wC X f [x] H Q
def Call2D (X : Cx) (f : Value) (g : G2) : Prop := ∀ (d e z : D) (x y : V) (r : List Addr) (H : Hp) (S S' : Store) (Q : VK), g d e S = some (z, S') → VR X.K r H d x → VR X.K r H e y → ROk X.K r H S → Ed X.K r H z S' Q → wC X f [x, y] H Q
theorem Call1D.call {f : Value} {g : G1} (h : Call1D X f g) : CallD X f (g1N g) := by
  intro ds z xs r H S S' Q q k ro ed
  obtain ⟨d, rfl, q⟩ := g1N_ok q
  obtain ⟨v, rfl, kx⟩ := k.one_inv
  exact h d z v r H S S' Q q kx ro ed
theorem Call2D.call {f : Value} {g : G2} (h : Call2D X f g) : CallD X f (g2N g) := by
  intro ds z xs r H S S' Q q k ro ed
  obtain ⟨d, e, rfl, q⟩ := g2N_ok q
  obtain ⟨v, w, rfl, k1, k2⟩ := k.two_inv
  exact h d e z v w r H S S' Q q k1 k2 ro ed

/-! ### len, abs, int, bool, max and min of two -/
def lenD (d : D) (S : Store) : Option Nat := match d with
  | .str y => if y.length ≤ sizeLine then some y.length else none
  | .tup xs => some xs.length
  | .kl xs => some xs.length
  | .ref n => match S[n]? with
    | some (.lst xs) => some xs.length
    | _ => none
  | _ => none
def gLen : G1 := fun d S => (lenD d S).map fun n => (.int n, S)
theorem c_len : Call1D X (.builtin "len") gLen := by
  intro d z x r H S S' Q q k ro ed
  unfold gLen at q
  cases h : lenD d S with
  | none => rw [h] at q; cases q
  | some n =>
    rw [h] at q; cases q
    refine wC_of call_len ⟨x, n, rfl, ?_, ed.flat ro rfl⟩
    unfold lenD at h
    split at h
    · split at h
      · rename_i y hy; cases h; have k : x = .str y := k; subst k; exact ⟨hy, rfl⟩
      · cases h
    · cases h
      obtain ⟨a, vs, rfl, ha, hv⟩ := k
      exact .inr ⟨vs, ha, hv.length⟩
    · cases h
      obtain ⟨a, vs, rfl, ha, hv⟩ := k
      exact .inl ⟨vs, ha.l, hv.length⟩
    · rename_i m
      obtain ⟨a, ha, rfl⟩ := k
      cases hq : S[m]? with
      | none => rw [hq] at h; cases h
      | some o =>
        rw [hq] at h
        have ho := ro.ob m o a hq ha
        cases o with
        | lst xs => cases h; obtain ⟨vs, h1, h2⟩ := ho; exact .inl ⟨vs, .of h1, h2.length⟩
        | _ => cases h
    · cases h
def gAbs : G1 := fun d S => (intD d).map fun i => (.int (if i < 0 then -i else i), S)
theorem c_abs : Call1D X (.builtin "abs") gAbs := by
  intro d z x r H S S' Q q k ro ed
  cases d with
  | int i => cases q; exact wC_of call_abs ⟨i, by rw [show x = .int i from k], ed.flat ro rfl⟩
  | _ => cases q
def gInt : G1 := fun d S => match d with
  | .int i => some (.int i, S)
  | .bl b => some (.int (if b then 1 else 0), S)
  | _ => none
theorem c_int : Call1D X (.type "int") gInt := by
  intro d z x r H S S' Q q k ro ed
  unfold gInt at q
  split at q
  · cases q; exact wC_of call_int1 (.inl ⟨_, by rw [show x = .int _ from k], ed.flat ro rfl⟩)
  · cases q; exact wC_of call_int1 (.inr ⟨_, by rw [show x = .bl _ from k], ed.flat ro rfl⟩)
  · cases q
def gMax2 : G2 := gI yes2 fun i j => .int (if j > i then j else i)
def gMin2 : G2 := gI yes2 fun i j => .int (if j < i then j else i)
theorem c_max2 (g : Gd X k) : Call2D X (.builtin "max") gMax2 := by
  intro d e z x y r H S S' Q q k1 k2 ro ed
  obtain ⟨i, j, rfl, rfl, _, rfl, rfl⟩ := gI_ok q
  exact wC_of (call_max2 g.calm) ⟨i, j, by rw [show x = .int i from k1, show y = .int j from k2], ed.flat ro rfl⟩
theorem c_min2 (g : Gd X k) : Call2D X (.builtin "min") gMin2 := by
  intro d e z x y r H S S' Q q k1 k2 ro ed
  obtain ⟨i, j, rfl, rfl, _, rfl, rfl⟩ := gI_ok q
  exact wC_of (call_min2 g.calm) ⟨i, j, by rw [show x = .int i from k1, show y = .int j from k2], ed.flat ro rfl⟩

/-! ### sum, max, min, all, any of a list -/
def intsD : List D → Option (List Int)
  | [] => some []
  | .int i :: r => (intsD r).map (i :: ·)
  | _ => none
def blsD : List D → Option (List Bool)
  | [] => some []
  | .bl i :: r => (blsD r).map (i :: ·)
  | _ => none
theorem intsD_ok {K : PySem.W.Frag} {r : List Addr} {H : Hp} : ∀ {ds : List D} {ns : List Int} {vs : List V}, intsD ds = some ns → VRs K r H ds vs → vs = ns.map V.int
  | [], _, _, e, h => by cases e; exact h
  | d :: ds, _, _, e, h => by
    obtain ⟨v, ws, rfl, h1, h2⟩ := h
    cases d with
    | int i =>
      unfold intsD at e
      obtain ⟨ns, e1, rfl⟩ := Option.map_eq_some_iff.mp e
      rw [intsD_ok e1 h2, show v = .int i from h1]
      rfl
    | _ => cases e
theorem blsD_ok {K : PySem.W.Frag} {r : List Addr} {H : Hp} : ∀ {ds : List D} {ns : List Bool} {vs : List V}, blsD ds = some ns → VRs K r H ds vs → vs = ns.map V.bl
  | [], _, _, e, h => by cases e; exact h
  | d :: ds, _, _, e, h => by
    obtain ⟨v, ws, rfl, h1, h2⟩ := h
    cases d with
    | bl i =>
      unfold blsD at e
      obtain ⟨ns, e1, rfl⟩ := Option.map_eq_some_iff.mp e
      rw [blsD_ok e1 h2, show v = .bl i from h1]
      rfl
    | _ => cases e
theorem lst_of {r : List Addr} {H : Hp} {S : Store} {d : D} {x : V} {ds : List D} (ro : ROk X.K r H S) (k : VR X.K r H d x) (e : lstD d S = some ds) : ∃ p vs, x = .ref p ∧ SqL X.K H p vs ∧ VRs X.K r H ds vs := by
  obtain ⟨n, p, vs, _, _, rfl, h1, _, h2⟩ := lstD_ok ro k e
  exact ⟨p, vs, rfl, .of h1, h2⟩
def gSum : G1 := fun d S => (lstD d S).bind fun ds => (intsD ds).map fun ns => (.int ns.sum, S)
theorem c_sum (g : Gd X k) : Call1D X (.builtin "sum") gSum := by
  intro d z x r H S S' Q q k ro ed
  obtain ⟨ds, h1, q⟩ := Option.bind_eq_some_iff.mp q
  obtain ⟨ns, h2, q⟩ := Option.map_eq_some_iff.mp q
  cases q
  obtain ⟨p, vs, rfl, hs, hv⟩ := lst_of ro k h1
  rw [intsD_ok h2 hv] at hs
  exact wC_of (cr_sum g.calm) ⟨p, ns, rfl, hs, ed.flat ro rfl⟩
def gAll : G1 := fun d S => (lstD d S).bind fun ds => (blsD ds).map fun ns => (.bl (ns.all fun b => b), S)
def gAny : G1 := fun d S => (lstD d S).bind fun ds => (blsD ds).map fun ns => (.bl (ns.any fun b => b), S)
theorem c_all (g : Gd X k) : Call1D X (.builtin "all") gAll := by
  intro d z x r H S S' Q q k ro ed
  obtain ⟨ds, h1, q⟩ := Option.bind_eq_some_iff.mp q
  obtain ⟨ns, h2, q⟩ := Option.map_eq_some_iff.mp q
  cases q
  obtain ⟨p, vs, rfl, hs, hv⟩ := lst_of ro k h1
  rw [blsD_ok h2 hv] at hs
  exact wC_of (cr_all g.calm) ⟨p, ns, rfl, hs, ed.flat ro rfl⟩
theorem c_any (g : Gd X k) : Call1D X (.builtin "any") gAny := by
  intro d z x r H S S' Q q k ro ed
  obtain ⟨ds, h1, q⟩ := Option.bind_eq_some_iff.mp q
  obtain ⟨ns, h2, q⟩ := Option.map_eq_some_iff.mp q
  cases q
  obtain ⟨p, vs, rfl, hs, hv⟩ := lst_of ro k h1
  rw [blsD_ok h2 hv] at hs
  exact wC_of (cr_any g.calm) ⟨p, ns, rfl, hs, ed.flat ro rfl⟩
/-- tuple(xs), list(xs) -/
def gTuple : G1 := fun d S => (itemsD d S).map fun ds => (.tup ds, S)
def gList : G1 := fun d S => (itemsD d S).map fun ds => (.ref S.length, S ++ [.lst ds])
theorem c_tuple : Call1D X (.type "tuple") gTuple := by
  intro d z x r H S S' Q q k ro ed
  obtain ⟨ds, h1, q⟩ := Option.map_eq_some_iff.mp q
  cases q
  obtain ⟨p, vs, rfl, hs, hv⟩ := itemsD_ok ro k h1
  refine wC_of call_tuple_of ⟨p, vs, rfl, ?_⟩
  rcases hs with hs | hs
  · exact .inl ⟨hs, fun l hl => ed.tupN ro hv hl⟩
  · exact .inr ⟨hs, ed.flat ro ⟨p, vs, rfl, hs, hv⟩⟩
theorem c_list : Call1D X (.type "list") gList := by
  intro d z x r H S S' Q q k ro ed
  obtain ⟨ds, h1, q⟩ := Option.map_eq_some_iff.mp q
  cases q
  obtain ⟨p, vs, rfl, hs, hv⟩ := itemsD_ok ro k h1
  exact wC_of call_list_of ⟨p, vs, rfl, hs, fun l hl => ed.lstN ro hv hl⟩

/-! ### repr -/
def reprP (d : D) (S : Store) : Option Str := (pyD S d).bind fun p => if p.showable = true ∧ p.depth ≤ 64 ∧ p.hasDict = false ∧ p.shown.length ≤ sizeLine then some p.shown else none
def gRepr : G1 := fun d S => (reprP d S).map fun x => (.str x, S)
theorem c_repr (g : Gd X k) : Call1D X (.builtin "repr") gRepr := by
  intro d z x r H S S' Q q k ro ed
  obtain ⟨t, h1, q⟩ := Option.map_eq_some_iff.mp q
  cases q
  obtain ⟨p, h2, h3⟩ := Option.bind_eq_some_iff.mp h1
  by_cases hc : p.showable = true ∧ p.depth ≤ 64 ∧ p.hasDict = false ∧ p.shown.length ≤ sizeLine
  · rw [if_pos hc] at h3
    cases h3
    obtain ⟨c1, c2, c3, c4⟩ := hc
    intro pins s σ us I rv
    obtain ⟨u, rfl, ru⟩ := vals1 rv
    obtain ⟨as, rd⟩ := toPy_reads I ro 64 d p x u h2 k ru
    have hu := g.room.un
    have rd0 := rd
    have fin : ∀ tk, EP X pins σ Q (.str p.shown tk) { s with toks := s.toks + 1 } := fun tk => ⟨.str p.shown, H, I.tok _, ⟨tk, rfl⟩, ed.flat ro rfl⟩
    cases rd with
    | none =>
      rw [PyData.shown_none] at fin
      exact PySem.P.repr_of_none (fin _)
    | bool b =>
      rw [PyData.shown_bool] at fin
      exact PySem.P.repr_of_bool (by cases b <;> exact fin _)
    | int i t =>
      rw [PyData.shown_int] at fin
      refine PySem.P.repr_of_int (by simpa [PyData.showable] using c1) (fin _)
    | str y t =>
      rw [PyData.shown_str] at fin c4
      exact PySem.P.repr_of_str (fin _) c4
    | list _ _ _ _ =>
      exact repr_of_reads' rd0 c1 (PyData.noDict_hsm c3) g.gd (by omega) (fun _ _ e => e) (fun h' u tk hk => ⟨.str _, H, I.kept hk, ⟨u, rfl⟩, ed.flat ro rfl⟩) c4
    | tuple _ _ _ _ =>
      exact repr_of_reads' rd0 c1 (PyData.noDict_hsm c3) g.gd (by omega) (fun _ _ e => e) (fun h' u tk hk => ⟨.str _, H, I.kept hk, ⟨u, rfl⟩, ed.flat ro rfl⟩) c4
    | dict _ _ _ _ _ =>
      exact repr_of_reads' rd0 c1 (PyData.noDict_hsm c3) g.gd (by omega) (fun _ _ e => e) (fun h' u tk hk => ⟨.str _, H, I.kept hk, ⟨u, rfl⟩, ed.flat ro rfl⟩) c4
  · rw [if_neg hc] at h3; cases h3

/-! ### isinstance -/
inductive Kd where
  | none | bool | int | str | tup | lst | dct | ins (C : Addr)
def kindD (d : D) (S : Store) : Option Kd := match d with
  | .non => some .none
  | .bl _ => some .bool
  | .int _ => some .int
  | .str _ => some .str
  | .tup _ => some .tup
  | .kl _ => some .lst
  | .ref n => match S[n]? with
    | some (.lst _) => some .lst
    | some (.dct _) => some .dct
    | some (.ins C _) => some (.ins C)
    | _ => Option.none
  | _ => Option.none
def Kd.ty : Kd → Value
  | .none => .type "NoneType"
  | .bool => .type "bool"
  | .int => .type "int"
  | .str => .type "str"
  | .tup => .type "tuple"
  | .lst => .type "list"
  | .dct => .type "dict"
  | .ins C => .ref C
theorem kindD_ok {r : List Addr} {H : Hp} {S : Store} {d : D} {x : V} {q : Kd} (ro : ROk X.K r H S) (h : VR X.K r H d x) (e : kindD d S = some q) : TyX X.K H x q.ty ∧ ∀ C, q = .ins C → OwnOk X.K C := by
  cases d with
  | non => cases e; have h : x = .non := h; subst h; exact ⟨.base .non, fun _ z => nomatch z⟩
  | bl b => cases e; have h : x = .bl b := h; subst h; exact ⟨.base (.bl b), fun _ z => nomatch z⟩
  | int i => cases e; have h : x = .int i := h; subst h; exact ⟨.base (.int i), fun _ z => nomatch z⟩
  | str i => cases e; have h : x = .str i := h; subst h; exact ⟨.base (.str i), fun _ z => nomatch z⟩
  | tup xs =>
    cases e
    obtain ⟨p, vs, rfl, hs, hv⟩ := h
    refine ⟨?_, fun _ z => nomatch z⟩
    rcases hs with (hs | ⟨o, hs⟩) | ⟨o, its, n, h1, h2, _⟩
    · exact .base (.tup hs)
    · exact .fTuple hs
    · exact .kTuple h1 h2
  | kl xs =>
    cases e
    obtain ⟨p, vs, rfl, hs, hv⟩ := h
    refine ⟨?_, fun _ z => nomatch z⟩
    rcases hs with ⟨o, hs⟩ | ⟨o, its, n, h1, h2, _⟩
    · exact .base (.frz hs)
    · exact .kList h1 h2
  | ref n =>
    obtain ⟨p, hp, rfl⟩ := h
    unfold kindD at e
    dsimp only at e
    cases q' : S[n]? with
    | none => rw [q'] at e; cases e
    | some o =>
      rw [q'] at e
      have ho := ro.ob n o p q' hp
      cases o with
      | lst xs => cases e; obtain ⟨vs, h1, h2⟩ := ho; exact ⟨.base (.lst h1), fun _ z => nomatch z⟩
      | dct xs => cases e; obtain ⟨vs, h1, h2⟩ := ho; exact ⟨.base (.dK h1), fun _ z => nomatch z⟩
      | ins C fs => cases e; obtain ⟨dx, vs, h1, h2, h3⟩ := ho; exact ⟨.base (.ins h1 h3.cl h3.ha h3.hn h3.htk h3.hm), fun _ z => by cases z; exact h3⟩
      | xd fs => cases e
  | _ => cases e
inductive Bt where
  | int | bool | str | tup | lst | dct
def Bt.nm : Bt → String
  | .int => "int" | .bool => "bool" | .str => "str" | .tup => "tuple" | .lst => "list" | .dct => "dict"
def isKd : Kd → Bt → Bool
  | .bool, .int => true
  | .int, .int => true
  | .bool, .bool => true
  | .str, .str => true
  | .tup, .tup => true
  | .lst, .lst => true
  | .dct, .dct => true
  | _, _ => false
theorem kit_bt {K : PySem.W.Frag} (q : Kd) (t : Bt) (h : ∀ C, q = .ins C → OwnOk K C) : PySem.W.kitOne K q.ty (.type t.nm) = some (isKd q t) := by
  cases q with
  | ins C =>
    have o := h C rfl
    cases t <;> exact o.nT _ (by simp [Bt.nm])
  | _ => cases t <;> with_unfolding_all rfl
def gIsi (t : Bt) : G1 := fun d S => (kindD d S).map fun q => (.bl (isKd q t), S)
def gIsiA (ts : List Bt) : G1 := fun d S => (kindD d S).map fun q => (.bl (ts.any (isKd q)), S)
theorem kit_bts {K : PySem.W.Frag} (q : Kd) (h : ∀ C, q = .ins C → OwnOk K C) : ∀ ts : List Bt, PySem.W.kitAny K q.ty (ts.map fun t => .type t.nm) = some (ts.any (isKd q))
  | [] => rfl
  | t :: ts => by
    rw [List.map_cons, List.any_cons]
    unfold PySem.W.kitAny
    rw [kit_bt q t h]
    cases isKd q t with
    | true => rfl
    | false => exact kit_bts q h ts
section
variable {p p1 pos : Pos} {e : Expr} {m : ME}
theorem e_isi (t : Bt) {x y : Str} (hg : Gl X x) (hm : X.mg x = none) (hv : bootBuiltins x = some (.builtin "isinstance")) (hg2 : Gl X y) (hm2 : X.mg y = none) (hv2 : bootBuiltins y = some (.type t.nm)) (ha : SndE X e m)
    (hn : x ≠ "__name__" := by decide) (hdb : (x == ("__debug__" : Str)) = false := by decide) (hn2 : y ≠ "__name__" := by decide) (hdb2 : (y == ("__debug__" : Str)) = false := by decide)
    (he : starEach [e, .Name y p1] X.env = (false, eval e X.env) :: starEach [.Name y p1] X.env := by rfl) (hpl : (backTo pos (starEach [.Name y p1] X.env)).any (·.1) = false := by rfl) :
    SndE X (.Call (.Name x p) [e, .Name y p1] [] pos) (m1 (gIsi t) m) := by
  intro W tk en σ r H S Q er ro dn
  refine wE_of (pe_callB call_isi hg hm hv (pa_cons (pe_wE X e) (pa_cons (pe_bltn (v := .ty t.nm) hg2 hm2 hv2 rfl hn2 hdb2) pa_nil) he) hn hdb he hpl) ?_
  refine ha W tk en σ r H S _ er ro (Dn.imp (Dn.bind dn) fun x H1 ⟨d, S1, r1, e1, s1, o1, k1, d1⟩ => ?_)
  obtain ⟨z, S', g1, ed⟩ := dn_ofOpt d1
  obtain ⟨q, h1, q2⟩ := Option.map_eq_some_iff.mp g1
  cases q2
  obtain ⟨ty, ow⟩ := kindD_ok o1 k1 h1
  exact ⟨x, .ty t.nm, q.ty, .type t.nm, isKd q t, rfl, .ty _, ty, kit_bt q t ow, ed.flat o1 rfl⟩
theorem e_isi2 (t u : Bt) {x y1 y2 : Str} {px : Nat} {p2 p3 : Pos} (hg : Gl X x) (hm : X.mg x = none) (hv : bootBuiltins x = some (.builtin "isinstance")) (hg1 : Gl X y1) (hm1 : X.mg y1 = none) (hv1 : bootBuiltins y1 = some (.type t.nm))
    (hg2 : Gl X y2) (hm2 : X.mg y2 = none) (hv2 : bootBuiltins y2 = some (.type u.nm)) (ha : SndE X e m)
    (hn : x ≠ "__name__" := by decide) (hdb : (x == ("__debug__" : Str)) = false := by decide) (hn1 : y1 ≠ "__name__" := by decide) (hdb1 : (y1 == ("__debug__" : Str)) = false := by decide) (hn2 : y2 ≠ "__name__" := by decide) (hdb2 : (y2 == ("__debug__" : Str)) = false := by decide)
    (he : starEach [e, .Tuple [.Name y1 p1, .Name y2 p2] px p3] X.env = (false, eval e X.env) :: starEach [.Tuple [.Name y1 p1, .Name y2 p2] px p3] X.env := by rfl) (hpl : (backTo pos (starEach [.Tuple [.Name y1 p1, .Name y2 p2] px p3] X.env)).any (·.1) = false := by rfl) :
    SndE X (.Call (.Name x p) [e, .Tuple [.Name y1 p1, .Name y2 p2] px p3] [] pos) (m1 (gIsiA [t, u]) m) := by
  intro W tk en σ r H S Q er ro dn
  refine wE_of (pe_callB call_isiT hg hm hv (pa_cons (pe_wE X e) (pa_cons (pe_tup (pa_cons (pe_bltn (v := .ty t.nm) hg1 hm1 hv1 rfl hn1 hdb1) (pa_cons (pe_bltn (v := .ty u.nm) hg2 hm2 hv2 rfl hn2 hdb2) pa_nil))) pa_nil) he) hn hdb he hpl) ?_
  refine ha W tk en σ r H S _ er ro (Dn.imp (Dn.bind dn) fun x H1 ⟨d, S1, r1, e1, s1, o1, k1, d1⟩ => ?_)
  obtain ⟨z, S', g1, ed⟩ := dn_ofOpt d1
  obtain ⟨q, h1, q2⟩ := Option.map_eq_some_iff.mp g1
  cases q2
  refine ⟨by show 2 ≤ sizeLine; decide, fun p hp => ?_⟩
  obtain ⟨ty, ow⟩ := kindD_ok (o1.loose (p := p) (u := .tup [.ty t.nm, .ty u.nm]) hp) (k1.mono (Stp.loose hp)) h1
  exact ⟨x, p, [.ty t.nm, .ty u.nm], q.ty, [.type t.nm, .type u.nm], ([t, u]).any (isKd q), rfl, upd_same, .cons (.ty _) (.cons (.ty _) .nil), ty, kit_bts q ow [t, u], ed r1 _ _ (Stp.loose hp) (o1.loose hp) rfl⟩
end
end
end Q

namespace Q
open PySem PySem.Spec PyProof.Rows L2
section
variable {X : Cx} {k : Nat} {a b : Expr} {ma mb : ME} {pos : Pos}
/-! ### an item: a[b] of a list, a tuple, a text -/
theorem VRs.atI {K : PySem.W.Frag} {r : List Addr} {H : Hp} {ds : List D} {vs : List V} {i : Int} {d : D} (h : VRs K r H ds vs) (e : L2.atI ds i = some d) : ∃ v, L2.atI vs i = some v ∧ VR K r H d v := by
  unfold L2.atI at e ⊢
  rw [← h.length]
  cases q : ixN ds.length i with
  | none => rw [q] at e; cases e
  | some j => rw [q] at e; exact h.get e
theorem keyD_ok {K : PySem.W.Frag} {r : List Addr} {H : Hp} {d : D} {x : V} {i : Key} (e : keyD d = some i) (k : VR K r H d x) : x = kV i := by
  cases d <;> first | (cases e; exact k) | cases e
def lookK (kvs : List (Key × D)) (k : Key) : Option D := (kvs.find? fun kv => decide (kv.1 = k)).map (·.2)
def putKD (kvs : List (Key × D)) (k : Key) (v : D) : List (Key × D) :=
  if (kvs.any fun kv => decide (kv.1 = k)) = true then kvs.map (fun kv => if kv.1 = k then (kv.1, v) else kv) else kvs ++ [(k, v)]
theorem KR.look {K : PySem.W.Frag} {r : List Addr} {H : Hp} (k : Key) : ∀ {ds : List (Key × D)} {vs : List (Key × V)}, KR K r H ds vs → match lookK ds k with | none => valV vs k = none | some d => ∃ v, valV vs k = some v ∧ VR K r H d v
  | [], vs, h => by have h : vs = [] := h; subst h; rfl
  | p :: ds, vs, h => by
    obtain ⟨v, ws, rfl, h1, h2⟩ := h
    have ih := KR.look k h2
    by_cases e : p.1 = k
    · rw [show lookK (p :: ds) k = some p.2 by simp [lookK, List.find?_cons, e]]
      exact ⟨v, valV_pos e, h1⟩
    · rw [show lookK (p :: ds) k = lookK ds k by simp [lookK, List.find?_cons, e], valV_neg (p := (p.1, v)) e]
      exact ih
theorem KR.any {K : PySem.W.Frag} {r : List Addr} {H : Hp} (k : Key) : ∀ {ds : List (Key × D)} {vs : List (Key × V)}, KR K r H ds vs → (ds.any fun kv => decide (kv.1 = k)) = vs.any fun kv => decide (kv.1 = k)
  | [], vs, h => by have h : vs = [] := h; subst h; rfl
  | p :: ds, vs, h => by
    obtain ⟨v, ws, rfl, h1, h2⟩ := h
    rw [List.any_cons, List.any_cons, KR.any k h2]
theorem KR.map {K : PySem.W.Frag} {r : List Addr} {H : Hp} {k : Key} {d : D} {v : V} (hd : VR K r H d v) : ∀ {ds : List (Key × D)} {vs : List (Key × V)}, KR K r H ds vs → KR K r H (ds.map fun kv => if kv.1 = k then (kv.1, d) else kv) (vs.map fun kv => if kv.1 = k then (kv.1, v) else kv)
  | [], vs, h => by have h : vs = [] := h; subst h; rfl
  | p :: ds, vs, h => by
    obtain ⟨w, ws, rfl, h1, h2⟩ := h
    rw [List.map_cons, List.map_cons]
    by_cases e : p.1 = k
    · rw [if_pos e, if_pos (show (p.1, w).1 = k from e)]
      exact ⟨v, _, rfl, hd, KR.map hd h2⟩
    · rw [if_neg e, if_neg (show ¬ (p.1, w).1 = k from e)]
      exact ⟨w, _, rfl, h1, KR.map hd h2⟩
theorem KR.append {K : PySem.W.Frag} {r : List Addr} {H : Hp} : ∀ {ds es : List (Key × D)} {vs ws : List (Key × V)}, KR K r H ds vs → KR K r H es ws → KR K r H (ds ++ es) (vs ++ ws)
  | [], _, vs, _, h, h' => by have h : vs = [] := h; subst h; exact h'
  | p :: ds, _, vs, _, h, h' => by
    obtain ⟨w, ws, rfl, h1, h2⟩ := h
    exact ⟨w, _, rfl, h1, KR.append h2 h'⟩
theorem KR.put {K : PySem.W.Frag} {r : List Addr} {H : Hp} {k : Key} {d : D} {v : V} {ds : List (Key × D)} {vs : List (Key × V)} (h : KR K r H ds vs) (hd : VR K r H d v) : KR K r H (putKD ds k d) (putK vs k v) := by
  unfold putKD putK
  rw [h.any k]
  split
  · exact KR.map hd h
  · exact KR.append h ⟨v, [], rfl, hd, rfl⟩
theorem KR.length {K : PySem.W.Frag} {r : List Addr} {H : Hp} : ∀ {ds : List (Key × D)} {vs : List (Key × V)}, KR K r H ds vs → ds.length = vs.length
  | [], vs, h => by have h : vs = [] := h; subst h; rfl
  | p :: ds, vs, h => by
    obtain ⟨w, ws, rfl, h1, h2⟩ := h
    rw [List.length_cons, List.length_cons, KR.length h2]
def itemD (d e : D) (S : Store) : Option D := match d, e with
  | .tup xs, .int i => L2.atI xs i
  | .kl xs, .int i => L2.atI xs i
  | .str z, .int i => if z.length ≤ sizeLine then (L2.atI z.cps.toList i).map fun c => .str ⟨#[c]⟩ else none
  | .ref n, .int i => match S[n]? with
    | some (.lst xs) => L2.atI xs i
    | _ => none
  | _, _ => none
def gItem : G2 := fun d e S => (itemD d e S).map fun z => (z, S)
theorem itemD_ok {r : List Addr} {H : Hp} {S : Store} {d e z : D} {x y : V} (ro : ROk X.K r H S) (k1 : VR X.K r H d x) (k2 : VR X.K r H e y) (q : itemD d e S = some z) {Q : VK} (hq : ∀ v, VR X.K r H z v → Q v H) : rIx X.K x y H Q := by
  unfold itemD at q
  split at q
  · obtain ⟨p, vs, rfl, hs, hv⟩ := k1
    obtain ⟨v, h1, h2⟩ := hv.atI q
    exact .inr (.inl ⟨p, vs, _, v, rfl, k2, hs, h1, hq v h2⟩)
  · obtain ⟨p, vs, rfl, hs, hv⟩ := k1
    obtain ⟨v, h1, h2⟩ := hv.atI q
    exact .inl ⟨p, vs, _, v, rfl, k2, hs.l, h1, hq v h2⟩
  · split at q
    · rename_i hz
      obtain ⟨c, h1, rfl⟩ := Option.map_eq_some_iff.mp q
      exact .inr (.inr ⟨_, _, c, k1, k2, hz, h1, hq _ rfl⟩)
    · cases q
  · rename_i n i
    obtain ⟨p, hp, rfl⟩ := k1
    cases q' : S[n]? with
    | none => rw [q'] at q; cases q
    | some o =>
      rw [q'] at q
      have ho := ro.ob n o p q' hp
      cases o with
      | lst xs =>
        obtain ⟨vs, h1, hv⟩ := ho
        obtain ⟨v, h2, h3⟩ := hv.atI q
        exact .inl ⟨p, vs, i, v, rfl, k2, .of h1, h2, hq v h3⟩
      | _ => cases q
  · cases q
theorem e_item (ha : SndE X a ma) (hb : SndE X b mb) (hs : PlainIx b := by intro _ _; rfl) : SndE X (.Subscript a b pos) (m2 gItem ma mb) := by
  intro W tk en σ r H S Q er ro dn
  refine wE_of (pe_ix ix_seq (pe_wE X a) (pe_wE X b) hs) (two ha hb (fun d e z x y r H S S' g1 k1 k2 o ed => ?_) tk er ro dn)
  obtain ⟨z', h1, h2⟩ := Option.map_eq_some_iff.mp g1
  cases h2
  exact itemD_ok o k1 k2 h1 fun v kv => ed.flat o kv
/-- d[k] of a dict with int and text keys -/
def dctD (d : D) (S : Store) : Option (List (Key × D)) := match d with
  | .ref n => match S[n]? with
    | some (.dct kvs) => some kvs
    | _ => none
  | _ => none
theorem dctD_ok {r : List Addr} {H : Hp} {S : Store} {d : D} {x : V} {kvs : List (Key × D)} (ro : ROk X.K r H S) (h : VR X.K r H d x) (e : dctD d S = some kvs) : ∃ n p vs, d = .ref n ∧ r[n]? = some p ∧ x = .ref p ∧ H p = some (.dK vs) ∧ S[n]? = some (.dct kvs) ∧ KR X.K r H kvs vs := by
  cases d with
  | ref n =>
    obtain ⟨p, hp, rfl⟩ := h
    unfold dctD at e
    dsimp only at e
    cases q : S[n]? with
    | none => rw [q] at e; cases e
    | some o =>
      rw [q] at e
      have ho := ro.ob n o p q hp
      cases o with
      | dct xs => obtain ⟨vs, h1, h2⟩ := ho; cases Option.some.inj e; exact ⟨n, p, vs, rfl, hp, rfl, h1, q, h2⟩
      | _ => cases e
  | _ => cases e
def gDget : G2 := fun d e S => (dctD d S).bind fun kvs => (keyD e).bind fun q => (lookK kvs q).map fun z => (z, S)
theorem e_dget (g : Gd X k) (ha : SndE X a ma) (hb : SndE X b mb) (hs : NoSl b) : SndE X (.Subscript a b pos) (m2 gDget ma mb) := by
  intro W tk en σ r H S Q er ro dn
  have hu := hu_of g.room
  refine wE_of (pe_dget hu (pe_wE X a) (pe_wE X b) hs) (two (rd := fun x y H2 Q => ∃ a v, x = .ref a ∧ DGet H2 a y (some v) ∧ Q v H2) ha hb (fun d e z x y r H S S' g1 k1 k2 o ed => ?_) tk er ro dn)
  obtain ⟨kvs, h1, g1⟩ := Option.bind_eq_some_iff.mp g1
  obtain ⟨q, h2, g1⟩ := Option.bind_eq_some_iff.mp g1
  obtain ⟨z', h3, g1⟩ := Option.map_eq_some_iff.mp g1
  cases g1
  obtain ⟨n, p, vs, rfl, _, rfl, hp, _, hv⟩ := dctD_ok o k1 h1
  have hl := hv.look q
  rw [h3] at hl
  obtain ⟨v, h4, h5⟩ := hl
  rw [keyD_ok h2 k2]
  exact ⟨p, v, rfl, by rw [← h4]; exact DGet.k hp, ed.flat o h5⟩
/-! ### a[lo:hi] -/
abbrev MO := En → Store → Res (Option Int)
def RO : List Addr → Hp → Option Int → Option Int → Prop := fun _ _ a b => b = a
def wP (X : Cx) (e : Option Expr) : TO := fun σ H Q => ∀ (pins : List (Addr × Obj)) (s : Shared), Inv X pins σ H s → wpAny (model X.prog X.w) X.A (evalPart e X.env) (fun u s' => ∃ o H', Inv X pins σ H' s' ∧ IsPart u o ∧ Q o H') X.xe s
theorem po_wP (X : Cx) (e : Option Expr) : PO X e (wP X e) := ⟨fun pins s _ _ _ I h => h pins s I⟩
def SndP (X : Cx) (e : Option Expr) (m : MO) : Prop := ∀ (W : WX), Takes X W → ∀ (en : En) (σ : L2.St) (r : List Addr) (H : Hp) (S : Store) (Q : Option Int → Hp → Prop), ER X.K r H en σ → ROk X.K r H S → Dn X.K r H RO (m en S) Q (WE W σ) → wP X e σ H Q
def mNone : MO := fun _ S => .ok none S
def mSome (m : ME) : MO := fun en S => (m en S).bind fun d S1 => match intD d with
  | some i => .ok (some i) S1
  | none => .bad
theorem p_none : SndP X none mNone := by
  intro W tk en σ r H S Q er ro dn pins s I
  exact po_none.run pins s σ H Q I (Dn.ok_here (R := RO) (a := none) (v := none) dn ro rfl)
theorem p_some (h : SndE X a ma) : SndP X (some a) (mSome ma) := by
  intro W tk en σ r H S Q er ro dn pins s I
  refine (po_some (pe_wE X a)).run pins s σ H Q I ?_
  refine h W tk en σ r H S _ er ro (Dn.imp (Dn.bind dn) fun x H1 ⟨d, S1, r1, e1, s1, o1, k1, d1⟩ => ?_)
  cases q : intD d with
  | none => rw [q] at d1; exact d1.elim
  | some i => rw [q] at d1; exact ⟨i, intD_ok q k1, Dn.ok_here (R := RO) (a := some i) (v := some i) d1 o1 rfl⟩
def cutD (xs : List D) (lo hi : Option Int) : List D := (xs.drop (HT.sIx xs.length 0 lo)).take (HT.sIx xs.length xs.length hi - HT.sIx xs.length 0 lo)
theorem VRs.cut {K : PySem.W.Frag} {r : List Addr} {H : Hp} {ds : List D} {vs : List V} (h : VRs K r H ds vs) (lo hi : Option Int) : VRs K r H (cutD ds lo hi) (cutV vs lo hi) := by
  unfold cutD cutV
  rw [← h.length]
  exact (h.drop _).take _
def cutP (d : D) (lo hi : Option Int) (S : Store) : Option (D × Store) := match d with
  | .tup xs => some (.tup (cutD xs lo hi), S)
  | .kl xs => some (.ref S.length, S ++ [.lst (cutD xs lo hi)])
  | .str z => if z.length ≤ sizeLine then some (.str (cutS z lo hi), S) else none
  | .ref n => match S[n]? with
    | some (.lst xs) => some (.ref S.length, S ++ [.lst (cutD xs lo hi)])
    | _ => none
  | _ => none
def mSl (ma : ME) (ml mh : MO) : ME := fun en S => (ma en S).bind fun d S1 => (ml en S1).bind fun lo S2 => (mh en S2).bind fun hi S3 => ofOpt (cutP d lo hi S3)
theorem e_slice {lo hi : Option Expr} {ml mh : MO} {p2 : Pos} (ha : SndE X a ma) (hl : SndP X lo ml) (hh : SndP X hi mh) : SndE X (.Subscript a (.Slice lo hi none p2) pos) (mSl ma ml mh) := by
  intro W tk en σ r H S Q er ro dn
  refine wE_of (pe_slice ((sl_tupA.or sl_list).or sl_str) (pe_wE X a) (po_wP X lo) (po_wP X hi)) ?_
  refine ha W tk en σ r H S _ er ro (Dn.imp (Dn.bind dn) fun x H1 ⟨d, S1, r1, e1, s1, o1, k1, d1⟩ => ?_)
  refine hl W tk en σ r1 H1 S1 _ (er.mono s1) o1 (Dn.imp (Dn.bind d1) fun l H2 ⟨l', S2, r2, e2, s2, o2, k2, d2⟩ => ?_)
  refine hh W tk en σ r2 H2 S2 _ ((er.mono s1).mono s2) o2 (Dn.imp (Dn.bind d2) fun u H3 ⟨u', S3, r3, e3, s3, o3, k3, d3⟩ => ?_)
  have k2 : l = l' := k2
  have k3 : u = u' := k3
  subst k2; subst k3
  obtain ⟨z, S', g1, ed⟩ := dn_ofOpt d3
  have k1 := (k1.mono s2).mono s3
  cases d with
  | tup xs =>
    cases g1
    obtain ⟨p, vs, rfl, hs, hv⟩ := k1
    refine .inl (.inl ⟨p, vs, rfl, hs, fun e => ed.flat o3 ⟨p, vs, rfl, hs, ?_⟩, fun _ q hq => ed.tupN o3 (hv.cut l u) hq⟩)
    have hl := hv.length
    unfold cutD
    rw [hl, e.1, e.2, Nat.sub_zero, List.drop_zero, List.take_of_length_le (by omega)]
    exact hv
  | str z =>
    unfold cutP at g1
    dsimp only at g1
    split at g1
    · rename_i hz
      cases g1
      exact .inr ⟨_, k1, hz, ed.flat o3 rfl⟩
    · cases g1
  | kl xs =>
    cases g1
    obtain ⟨p, vs, rfl, hs, hv⟩ := k1
    exact .inl (.inr ⟨p, vs, rfl, hs.l, fun q hq => ed.lstN o3 (hv.cut l u) hq⟩)
  | ref n =>
    obtain ⟨p, hp, rfl⟩ := k1
    unfold cutP at g1
    dsimp only at g1
    cases q' : S3[n]? with
    | none => rw [q'] at g1; cases g1
    | some o =>
      rw [q'] at g1
      have ho := o3.ob n o p q' hp
      cases o with
      | lst xs =>
        cases g1
        obtain ⟨vs, h1, hv⟩ := ho
        exact .inl (.inr ⟨p, vs, rfl, .of h1, fun q hq => ed.lstN o3 (hv.cut l u) hq⟩)
      | _ => cases g1
  | _ => cases g1
end
end Q

namespace Q
open PySem PySem.Spec PyProof.Rows L2
/-! ### statements -/
abbrev MS := En → Store → SRes
def DnS (K : PySem.W.Frag) (r : List Addr) (H : Hp) (m : SRes) (D : Ends) (W : WX) : Prop := match m with
  | .nx e S' => ∀ (r' : List Addr) (H' : Hp) (σ' : L2.St), Stp r H r' H' → ROk K r' H' S' → ER K r' H' e σ' → D.nx σ' H'
  | .rt d S' => ∀ (r' : List Addr) (H' : Hp) (v : V), Stp r H r' H' → ROk K r' H' S' → VR K r' H' d v → D.rt v H'
  | .bk e S' => ∀ (r' : List Addr) (H' : Hp) (σ' : L2.St), Stp r H r' H' → ROk K r' H' S' → ER K r' H' e σ' → D.bk σ' H'
  | .ct e S' => ∀ (r' : List Addr) (H' : Hp) (σ' : L2.St), Stp r H r' H' → ROk K r' H' S' → ER K r' H' e σ' → D.ct σ' H'
  | .err C n e S' => ∀ (r' : List Addr) (H' : Hp) (σ' : L2.St) (x : Option Addr), Stp r H r' H' → ROk K r' H' S' → ER K r' H' e σ' → NR r' n x → W (.ref C) x σ' H'
  | .bad => False
def SndS (X : Cx) (st : Stmt) (m : MS) : Prop := ∀ (W : WX), Takes X W → ∀ (en : En) (σ : L2.St) (r : List Addr) (H : Hp) (S : Store) (D : Ends), ER X.K r H en σ → ROk X.K r H S → DnS X.K r H (m en S) D W → wS X st D σ H
def SndSs (X : Cx) (st : List Stmt) (m : MS) : Prop := ∀ (W : WX), Takes X W → ∀ (en : En) (σ : L2.St) (r : List Addr) (H : Hp) (S : Store) (D : Ends), ER X.K r H en σ → ROk X.K r H S → DnS X.K r H (m en S) D W → wSs X st D σ H
section
variable {K : PySem.W.Frag} {r r1 : List Addr} {H H1 : Hp} {α β : Type} {R : List Addr → Hp → α → β → Prop} {m : Res α} {f : α → Store → SRes} {D : Ends} {W : WX} {en : En} {σ : L2.St}
theorem DnS.mono {m : SRes} (s : Stp r H r1 H1) (h : DnS K r H m D W) : DnS K r1 H1 m D W := by
  cases m with
  | nx e S => exact fun r' H' v s' o k => h r' H' v (s.trans s') o k
  | rt e S => exact fun r' H' v s' o k => h r' H' v (s.trans s') o k
  | bk e S => exact fun r' H' v s' o k => h r' H' v (s.trans s') o k
  | ct e S => exact fun r' H' v s' o k => h r' H' v (s.trans s') o k
  | err C n e S => exact fun r' H' σ' x s' o k q => h r' H' σ' x (s.trans s') o k q
  | bad => exact h
/-- an expression ahead of the rest of a statement -/
theorem DnS.stm (er : ER K r H en σ) (h : DnS K r H (m.stm en f) D W) : Dn K r H R m (fun v H1 => ∃ a S1 r1, m = .ok a S1 ∧ Stp r H r1 H1 ∧ ROk K r1 H1 S1 ∧ R r1 H1 a v ∧ ER K r1 H1 en σ ∧ DnS K r1 H1 (f a S1) D W) (WE W σ) := by
  cases m with
  | ok a S => exact fun r' H' v s o k => ⟨a, S, r', rfl, s, o, k, er.mono s, DnS.mono s h⟩
  | err C n S => exact fun r' H' x s' o k => h r' H' σ x s' o (er.mono s') k
  | bad => exact h
theorem DnS.nx_here {e : En} {S : Store} (h : DnS K r H (.nx e S) D W) (o : ROk K r H S) (er : ER K r H e σ) : D.nx σ H := h r H σ (Stp.refl _ _) o er
theorem DnS.rt_here {d : Q.D} {v : V} {S : Store} (h : DnS K r H (.rt d S) D W) (o : ROk K r H S) (k : VR K r H d v) : D.rt v H := h r H v (Stp.refl _ _) o k
theorem DnS.ends {m : SRes} {D' : Ends} (h : DnS K r H m D W) (h1 : ∀ σ H, D.nx σ H → D'.nx σ H) (h2 : D'.rt = D.rt) (h3 : D'.bk = D.bk) (h4 : D'.ct = D.ct) : DnS K r H m D' W := by
  cases m with
  | nx e S => exact fun r' H' v s' o k => h1 _ _ (h r' H' v s' o k)
  | rt e S => intro r' H' v s' o k; rw [h2]; exact h r' H' v s' o k
  | bk e S => intro r' H' v s' o k; rw [h3]; exact h r' H' v s' o k
  | ct e S => intro r' H' v s' o k; rw [h4]; exact h r' H' v s' o k
  | err C n e S => exact fun r' H' σ' x s' o k q => h r' H' σ' x s' o k q
  | bad => exact h
end
theorem wS_of {X : Cx} {e : Stmt} {t : TS} (h : PS X e t) {σ : L2.St} {H : Hp} {D : Ends} (q : t D σ H) : wS X e D σ H := fun pins s I => h.run pins s σ H D I q
theorem wSs_of {X : Cx} {e : List Stmt} {t : TS} (h : PSs X e t) {σ : L2.St} {H : Hp} {D : Ends} (q : t D σ H) : wSs X e D σ H := fun pins s I => h.run pins s σ H D I q
def SRes.seq (m : SRes) (f : MS) : SRes := match m with
  | .nx e S => f e S
  | q => q
section
variable {X : Cx} {k : Nat} {st : Stmt} {rest : List Stmt} {ms mr mu : MS} {a b c : Expr} {ma mb : ME} {mt : MT} {pos : Pos}
def mSkip : MS := fun en S => .nx en S
def mSeq (ms mr : MS) : MS := fun en S => (ms en S).seq mr
theorem s_nil : SndSs X [] mSkip := fun W tk en σ r H S D er ro dn => wSs_of pss_nil (dn.nx_here ro er)
theorem s_one (h : SndS X st ms) : SndSs X [st] ms := fun W tk en σ r H S D er ro dn => wSs_of (pss_one (ps_wS X st)) (h W tk en σ r H S D er ro dn)
theorem s_cons (h : SndS X st ms) (hr : SndSs X rest mr) : SndSs X (st :: rest) (mSeq ms mr) := by
  intro W tk en σ r H S D er ro dn
  refine wSs_of (pss_cons (ps_wS X st) (pss_wSs X rest)) ?_
  refine h W tk en σ r H S { D with nx := wSs X rest D } er ro ?_
  have dn : DnS X.K r H ((ms en S).seq mr) D W := dn
  cases q : ms en S with
  | nx e S1 =>
    rw [q] at dn
    exact fun r' H' σ' s o e' => hr W tk e σ' r' H' S1 D e' o (DnS.mono s dn)
  | rt _ _ => rw [q] at dn; exact dn
  | bk _ _ => rw [q] at dn; exact dn
  | ct _ _ => rw [q] at dn; exact dn
  | err _ _ _ _ => rw [q] at dn; exact dn
  | bad => rw [q] at dn; exact dn
theorem s_pass : SndS X (.Pass pos) mSkip := fun W tk en σ r H S D er ro dn => wS_of ps_pass (dn.nx_here ro er)
def mBrk : MS := fun en S => .bk en S
def mCnt : MS := fun en S => .ct en S
theorem s_break : SndS X (.Break pos) mBrk := fun W tk en σ r H S D er ro dn => wS_of ps_break (dn r H σ (Stp.refl _ _) ro er)
theorem s_continue : SndS X (.Continue pos) mCnt := fun W tk en σ r H S D er ro dn => wS_of ps_continue (dn r H σ (Stp.refl _ _) ro er)
def mExpr (m : ME) : MS := fun en S => (m en S).stm en fun _ S1 => .nx en S1
theorem s_expr (ha : SndE X a ma) (hs : swapsWith a none pos.line X.env = pure false := by rfl) : SndS X (.Expr a pos) (mExpr ma) := by
  intro W tk en σ r H S D er ro dn
  refine wS_of (ps_expr (pe_wE X a) hs) ?_
  exact ha W tk en σ r H S _ er ro (Dn.imp (DnS.stm (R := VR X.K) er dn) fun x H1 ⟨d, S1, r1, e1, s1, o1, k1, er1, d1⟩ => d1.nx_here o1 er1)
def mRet (m : ME) : MS := fun en S => (m en S).stm en fun d S1 => .rt d S1
theorem s_ret (ha : SndE X a ma) : SndS X (.Return (some a) pos) (mRet ma) := by
  intro W tk en σ r H S D er ro dn
  refine wS_of (ps_ret (pe_wE X a)) ?_
  exact ha W tk en σ r H S _ er ro (Dn.imp (DnS.stm (R := VR X.K) er dn) fun x H1 ⟨d, S1, r1, e1, s1, o1, k1, er1, d1⟩ => d1.rt_here o1 k1)
def mRetN : MS := fun _ S => .rt .non S
theorem s_retN : SndS X (.Return none pos) mRetN := fun W tk en σ r H S D er ro dn => wS_of ps_retN (DnS.rt_here (d := .non) (v := .non) dn ro rfl)
def mIfS (mt : MT) (ms mu : MS) : MS := fun en S => (mt en S).stm en fun b S1 => match b with
  | true => ms en S1
  | false => mu en S1
theorem s_if {as bs : List Stmt} (hc : SndT X c mt) (ha : SndSs X as ms) (hb : SndSs X bs mu) : SndS X (.If c as bs pos) (mIfS mt ms mu) := by
  intro W tk en σ r H S D er ro dn
  refine wS_of (ps_if (pt_wT X c) (pss_wSs X as) (pss_wSs X bs)) ?_
  refine hc W tk en σ r H S _ er ro (Dn.imp (DnS.stm (R := RT) er dn) fun x H1 ⟨d, S1, r1, e1, s1, o1, k1, er1, d1⟩ => ?_)
  have k1 : x = d := k1
  subst k1
  cases x with
  | true => exact ha W tk en σ r1 H1 S1 D er1 o1 d1
  | false => exact hb W tk en σ r1 H1 S1 D er1 o1 d1
/-- code that is never reached -/
def mNever : MS := fun _ _ => .bad
theorem s_never : SndS X st mNever := fun _ _ _ _ _ _ _ _ _ _ dn => dn.elim

/-! ### targets -/
abbrev Pat := D → Store → Option (List (Nat × D))
def setsE (e : En) : List (Nat × D) → En
  | [] => e
  | (i, d) :: l => setsE (e.set i (some d)) l
def setsV (σ : L2.St) : List (Nat × V) → L2.St
  | [] => σ
  | (i, d) :: l => setsV (σ.set i (some d)) l
def PR (K : PySem.W.Frag) (r : List Addr) (H : Hp) : List (Nat × D) → List (Nat × V) → Prop
  | [], vs => vs = []
  | p :: ds, vs => ∃ v ws, vs = (p.1, v) :: ws ∧ VR K r H p.2 v ∧ PR K r H ds ws
theorem PR.sets {K : PySem.W.Frag} {r : List Addr} {H : Hp} : ∀ {ps : List (Nat × D)} {vs : List (Nat × V)} {e : En} {σ : L2.St}, PR K r H ps vs → ER K r H e σ → ER K r H (setsE e ps) (setsV σ vs)
  | [], vs, e, σ, h, er => by have h : vs = [] := h; subst h; exact er
  | p :: ps, vs, e, σ, h, er => by
    obtain ⟨v, ws, rfl, h1, h2⟩ := h
    have q := PR.sets h2 (er.set (i := p.1) h1)
    exact q
theorem PR.append {K : PySem.W.Frag} {r : List Addr} {H : Hp} : ∀ {ps qs : List (Nat × D)} {vs ws : List (Nat × V)}, PR K r H ps vs → PR K r H qs ws → PR K r H (ps ++ qs) (vs ++ ws)
  | [], _, vs, _, h, h' => by have h : vs = [] := h; subst h; exact h'
  | p :: ps, _, vs, _, h, h' => by
    obtain ⟨v, ws, rfl, h1, h2⟩ := h
    exact ⟨v, _, rfl, h1, PR.append h2 h'⟩
theorem setsV_append (σ : L2.St) : ∀ (ps qs : List (Nat × V)), setsV σ (ps ++ qs) = setsV (setsV σ ps) qs
  | [], _ => rfl
  | (i, d) :: l, qs => setsV_append (σ.set i (some d)) l qs
def wG (X : Cx) (tg : Expr) : TG := fun v σ H Q => ∀ (pins : List (Addr × Obj)) (s : Shared) (u : Value), Inv X pins σ H s → RelV v u → wpAny (model X.prog X.w) X.A (assign tg X.env u) (fun _ s' => ∃ σ' H', Inv X pins σ' H' s' ∧ Q σ' H') X.xe s
theorem pg_wG (X : Cx) (tg : Expr) : PG X tg (wG X tg) := ⟨fun pins s _ _ _ u _ I rv h => h pins s u I rv⟩
def wGs (X : Cx) (ts : List Expr) : TGs := fun vs σ H Q => ∀ (pins : List (Addr × Obj)) (s : Shared) (us : List Value), Inv X pins σ H s → Vals vs us → wpAny (model X.prog X.w) X.A (assignInOrder ((assignEach ts X.env).map (·.2)) us) (fun _ s' => ∃ σ' H', Inv X pins σ' H' s' ∧ Q σ' H') X.xe s
theorem pgs_wGs (X : Cx) (ts : List Expr) : PGs X ts (wGs X ts) := ⟨fun pins s _ _ _ us _ I rv h => h pins s us I rv⟩
/-- a target of names and tuples of names; own: the slots that it may store -/
def SndG (X : Cx) (tg : Expr) (own : List Nat) (g : Pat) : Prop := ∀ (d : D) (v : V) (ps : List (Nat × D)) (σ : L2.St) (r : List Addr) (H : Hp) (S : Store) (Q : L2.St → Hp → Prop), g d S = some ps → VR X.K r H d v → ROk X.K r H S →
  (∀ vs, PR X.K r H ps vs → (∀ p ∈ vs, p.1 ∈ own) → Q (setsV σ vs) H) → wG X tg v σ H Q
abbrev Pats := List D → Store → Option (List (Nat × D))
def SndGs (X : Cx) (ts : List Expr) (own : List Nat) (g : Pats) : Prop := ∀ (ds : List D) (vs : List V) (ps : List (Nat × D)) (σ : L2.St) (r : List Addr) (H : Hp) (S : Store) (Q : L2.St → Hp → Prop), g ds S = some ps → VRs X.K r H ds vs → ROk X.K r H S →
  (∀ vs, PR X.K r H ps vs → (∀ p ∈ vs, p.1 ∈ own) → Q (setsV σ vs) H) → wGs X ts vs σ H Q
def pName (i : Nat) : Pat := fun d _ => some [(i, d)]
theorem g_name {i : Nat} {x : Str} {own : List Nat} (hN : X.N.Nodup) (hi : X.N[i]? = some x) (hx : Loc X.env.scope x) (ho : i ∈ own := by simp) (hf : X.fn x = true ∨ X.env.scope.names.lookup x = some .local := by first | exact .inl rfl | exact .inr rfl | assumption) : SndG X (.Name x pos) own (pName i) := by
  intro d v ps σ r H S Q q k ro hQ pins s u I rv
  cases q
  exact (pg_name hN hi hx hf).run pins s σ H v u Q I rv (hQ [(i, v)] ⟨v, [], rfl, k, rfl⟩ (fun p hp => by rw [List.mem_singleton.mp hp]; exact ho))
def pNil : Pats := fun ds _ => match ds with
  | [] => some []
  | _ => none
def pCons (g : Pat) (gs : Pats) : Pats := fun ds S => match ds with
  | [] => none
  | d :: ds => (g d S).bind fun ps => (gs ds S).map fun qs => ps ++ qs
theorem gs_nil {own : List Nat} : SndGs X [] own pNil := by
  intro ds vs ps σ r H S Q q k ro hQ pins s us I rv
  cases ds with
  | nil =>
    cases q
    have k : vs = [] := k
    subst k
    exact pgs_nil.run pins s σ H [] us Q I rv ⟨rfl, hQ [] rfl (fun _ h => nomatch h)⟩
  | cons _ _ => cases q
theorem gs_cons {e : Expr} {es : List Expr} {own : List Nat} {g : Pat} {gs : Pats} (h1 : SndG X e own g) (h2 : SndGs X es own gs)
    (hs : (assignEach (e :: es) X.env).map (·.2) = assign e X.env :: (assignEach es X.env).map (·.2) := by rfl) : SndGs X (e :: es) own (pCons g gs) := by
  intro ds vs ps σ r H S Q q k ro hQ pins s us I rv
  cases ds with
  | nil => cases q
  | cons d ds =>
    obtain ⟨v, ws, rfl, k1, k2⟩ := k
    obtain ⟨p1, e1, q⟩ := Option.bind_eq_some_iff.mp q
    obtain ⟨p2, e2, q⟩ := Option.map_eq_some_iff.mp q
    subst q
    refine (pgs_cons (pg_wG X e) (pgs_wGs X es) hs).run pins s σ H (v :: ws) us Q I rv ⟨v, ws, rfl, ?_⟩
    refine h1 d v p1 σ r H S _ e1 k1 ro fun w1 r1 o1 => ?_
    refine h2 ds ws p2 _ r H S _ e2 k2 ro fun w2 r2 o2 => ?_
    rw [← setsV_append]
    exact hQ _ (r1.append r2) fun p hp => (List.mem_append.mp hp).elim (o1 p) (o2 p)
def pTup (n : Nat) (gs : Pats) : Pat := fun d S => match d with
  | .tup xs => if xs.length = n then gs xs S else none
  | _ => none
theorem g_tup {es : List Expr} {kk n : Nat} {own : List Nat} {gs : Pats} (hc : X.calm = true) (h : SndGs X es own gs) (hn : (assignEach es X.env).length = n := by rfl) (hst : (assignEach es X.env).findIdx? (·.1) = none := by rfl) :
    SndG X (.Tuple es kk pos) own (pTup n gs) := by
  intro d v ps σ r H S Q q k ro hQ pins s u I rv
  cases d with
  | tup xs =>
    obtain ⟨a, vs, rfl, ha, hv⟩ := k
    unfold pTup at q
    dsimp only at q
    split at q
    · rename_i hl
      refine (pg_tup hc (pgs_wGs X es) hn hst).run pins s σ H _ u Q I rv ⟨a, vs, rfl, ha, by rw [← hv.length]; exact hl, ?_⟩
      exact h xs vs ps σ r H S Q q hv ro hQ
    · cases q
  | _ => cases q
def mAsgP (o : Option (List (Nat × D))) (en : En) (S : Store) : SRes := match o with
  | some ps => .nx (setsE en ps) S
  | none => .bad
/-- target = value -/
def mAsg (g : Pat) (m : ME) : MS := fun en S => (m en S).stm en fun d S1 => mAsgP (g d S1) en S1
theorem s_asg {tg : Expr} {own : List Nat} {g : Pat} (ha : SndE X a ma) (hg : SndG X tg own g) (hs : swapsWithSole [tg] a pos.line X.env = pure false := by rfl) (hw : swappedStores [tg] a X.env = pure none := by rfl)
    (h1 : (assignEach [tg] X.env).map (·.2) = [assign tg X.env] := by rfl) : SndS X (.Assign [tg] a pos) (mAsg g ma) := by
  intro W tk en σ r H S D er ro dn
  refine wS_of (ps_asg (pe_wE X a) (pg_wG X tg) hs hw h1) ?_
  refine ha W tk en σ r H S _ er ro (Dn.imp (DnS.stm (R := VR X.K) er dn) fun x H1 ⟨d, S1, r1, e1, s1, o1, k1, er1, d1⟩ => ?_)
  cases q : g d S1 with
  | none => rw [q] at d1; exact d1.elim
  | some ps =>
    rw [q] at d1
    exact hg d x ps σ r1 H1 S1 D.nx q k1 o1 fun vs hp _ => DnS.nx_here (e := setsE en ps) d1 o1 (hp.sets er1)
def mSet (i : Nat) (m : ME) : MS := fun en S => (m en S).stm en fun d S1 => .nx (en.set i (some d)) S1
theorem s_set {i : Nat} {x : Str} {pos' : Pos} (hN : X.N.Nodup) (hi : X.N[i]? = some x) (hx : Loc X.env.scope x) (ha : SndE X a ma) (hs : swapsWith a (some (.Name x pos')) pos.line X.env = pure false := by rfl) (hf : X.fn x = true ∨ X.env.scope.names.lookup x = some .local := by first | exact .inl rfl | exact .inr rfl | assumption) :
    SndS X (.Assign [.Name x pos'] a pos) (mSet i ma) := by
  intro W tk en σ r H S D er ro dn
  refine wS_of (ps_set hN hi hx (pe_wE X a) hs hf) ?_
  exact ha W tk en σ r H S _ er ro (Dn.imp (DnS.stm (R := VR X.K) er dn) fun x H1 ⟨d, S1, r1, e1, s1, o1, k1, er1, d1⟩ => DnS.nx_here (e := en.set i (some d)) d1 o1 (er1.set k1))
/-- a, b = x, y with two plain local names -/
def mPar (i j : Nat) (m : MA) : MS := fun en S => (m en S).stm en fun ds S1 => match ds with
  | [d, e] => .nx ((en.set i (some d)).set j (some e)) S1
  | _ => .bad
theorem s_par {i j : Nat} {x y : Str} {m : MA} {px py pt : Pos} {kt k2 pt2} (hc : X.calm = true) (hN : X.N.Nodup) (hi : X.N[i]? = some x) (hj : X.N[j]? = some y) (hij : i ≠ j)
    (hx : X.env.scope.names.lookup x = some .local) (hy : X.env.scope.names.lookup y = some .local) (ha : SndA X [a, b] m)
    (hw : swappedStores [.Tuple [.Name x px, .Name y py] kt pt] (.Tuple [a, b] k2 pt2) X.env = pure (some [x, y]) := by rfl) (hs : swapsWithSole [.Tuple [.Name x px, .Name y py] kt pt] (.Tuple [a, b] k2 pt2) pos.line X.env = pure false := by rfl) : SndS X (.Assign [.Tuple [.Name x px, .Name y py] kt pt] (.Tuple [a, b] k2 pt2) pos) (mPar i j m) := by
  intro W tk en σ r H S D er ro dn
  refine wS_of (ps_par hc hN hi hj hij hx hy (pa_wA X _) hw hs) ?_
  refine ha W tk en σ r H S _ er ro (Dn.imp (DnS.stm (R := VRs X.K) er dn) fun xs H1 ⟨ds, S1, r1, e1, s1, o1, k1, er1, d1⟩ => ?_)
  match ds, d1, k1 with
  | [d, e], d1, k1 =>
    obtain ⟨v, w, rfl, h1, h2⟩ := k1.two_inv
    exact ⟨v, w, rfl, DnS.nx_here (e := (en.set i (some d)).set j (some e)) d1 o1 ((er1.set h1).set h2)⟩
  | [], d1, _ => exact d1.elim
  | [_], d1, _ => exact d1.elim
  | _ :: _ :: _ :: _, d1, _ => exact d1.elim
/-- name op= e of ints -/
def mAug (i : Nat) (f : Int → Int → Int) (m : ME) : MS := fun en S => match en[i]? with
  | some (some (.int a)) => (m en S).stm en fun d S1 => match d with
    | .int b => .nx (en.set i (some (.int (f a b)))) S1
    | _ => .bad
  | _ => .bad
theorem s_aug {i : Nat} {x : Str} {op : Operator} {f : Int → Int → Int} {pos' : Pos} (hN : X.N.Nodup) (hi : X.N[i]? = some x) (hx : Loc X.env.scope x) (ha : SndE X a ma) (ho : PIp X op (ipI f)) (hf : X.fn x = true ∨ X.env.scope.names.lookup x = some .local := by first | exact .inl rfl | exact .inr rfl | assumption) :
    SndS X (.AugAssign (.Name x pos') op a pos) (mAug i f ma) := by
  intro W tk en σ r H S D er ro dn
  refine wS_of (ps_aug hN hi hx (pe_wE X a) ho hf) ?_
  unfold mAug at dn
  split at dn
  · rename_i z hz
    obtain ⟨v, h1, h2⟩ := er.at_ i _ hz
    have h2 : v = .int z := h2
    subst h2
    refine ⟨_, h1, ?_⟩
    refine ha W tk en σ r H S _ er ro (Dn.imp (DnS.stm (R := VR X.K) er dn) fun x H1 ⟨d, S1, r1, e1, s1, o1, k1, er1, d1⟩ => ?_)
    cases d with
    | int b => exact ⟨z, b, rfl, k1, DnS.nx_here (e := en.set i (some (.int (f z b)))) d1 o1 (er1.set rfl)⟩
    | _ => exact d1.elim
  · exact dn.elim

/-! ### while -/
def mWhile (mt : MT) (mb : MS) : Nat → En → Store → SRes
  | 0, _, _ => .bad
  | n + 1, en, S => (mt en S).stm en fun b S1 => match b with
    | true => match mb en S1 with
      | .nx e S2 => mWhile mt mb n e S2
      | .ct e S2 => mWhile mt mb n e S2
      | .bk e S2 => .nx e S2
      | .rt d S2 => .rt d S2
      | .err C x e S2 => .err C x e S2
      | .bad => .bad
    | false => .nx en S1
theorem s_while {body : List Stmt} (n : Nat) (hp : PassesOwn (model X.prog X.w) X.A X.env X.xe) (hc : SndT X c mt) (hb : SndSs X body ms) : SndS X (.While c body [] pos) (mWhile mt ms n) := by
  intro W tk en σ r H S D er ro dn
  refine wS_of (ps_while hp (pt_wT X c) (pss_wSs X body)) ?_
  refine ⟨fun m σ H => ∃ en r S, ER X.K r H en σ ∧ ROk X.K r H S ∧ DnS X.K r H (mWhile mt ms m en S) D W, ⟨n, en, r, S, er, ro, dn⟩, ?_⟩
  rintro m σ H ⟨en, r, S, er, ro, dn⟩
  cases m with
  | zero => exact dn.elim
  | succ m =>
    refine hc W tk en σ r H S _ er ro (Dn.imp (DnS.stm (R := RT) er dn) fun x H1 ⟨d, S1, r1, e1, s1, o1, k1, er1, d1⟩ => ?_)
    have k1 : x = d := k1
    subst k1
    cases x with
    | false => exact DnS.nx_here (e := en) d1 o1 er1
    | true =>
      refine ⟨fun σ' H' => ∃ en r S, ER X.K r H' en σ' ∧ ROk X.K r H' S ∧ DnS X.K r H' (mWhile mt ms m en S) D W, fun σ' H' h => ⟨m, Nat.lt_succ_self m, h⟩, ?_⟩
      refine hb W tk en σ r1 H1 S1 _ er1 o1 ?_
      dsimp only at d1
      cases q : ms en S1 with
      | nx e S2 => rw [q] at d1; exact fun r' H' σ' s o e' => ⟨e, r', S2, e', o, DnS.mono s d1⟩
      | ct e S2 => rw [q] at d1; exact fun r' H' σ' s o e' => ⟨e, r', S2, e', o, DnS.mono s d1⟩
      | bk e S2 => rw [q] at d1; exact d1
      | rt d S2 => rw [q] at d1; exact d1
      | err C x e S2 => rw [q] at d1; exact d1
      | bad => rw [q] at d1; exact d1.elim

/-! ### what is walked -/
inductive MI where
  | lst (n : Nat) | vals (xs : List D) | rng (lo : Int) (n : Nat) | zip2 (a b : MI) | zip3 (a b c : MI) | enu (c : Int) (a : MI)
/-- the item at the turn i: bad, the end, an item -/
def nextM (mi : MI) (i : Nat) (S : Store) : Option (Option D) := match mi with
  | .lst n => match S[n]? with
    | some (.lst xs) => some xs[i]?
    | _ => none
  | .vals xs => some xs[i]?
  | .rng lo n => some (if i < n then some (.int (lo + i)) else none)
  | .zip2 a b => (nextM a i S).bind fun od => match od with
    | none => some none
    | some d => (nextM b i S).map fun oe => oe.map fun e => .tup [d, e]
  | .zip3 a b c => (nextM a i S).bind fun od => match od with
    | none => some none
    | some d => (nextM b i S).bind fun oe => match oe with
      | none => some none
      | some e => (nextM c i S).map fun og => og.map fun g => .tup [d, e, g]
  | .enu c a => (nextM a i S).map fun od => od.map fun d => .tup [.int (c + (i : Nat)), d]
/-- the iterator J of HandS is told by mi -/
def WkR (K : PySem.W.Frag) (r : List Addr) (H : Hp) (mi : MI) (J : It) : Prop := ∀ (r' : List Addr) (H' : Hp) (S : Store) (i : Nat), Stp r H r' H' → ROk K r' H' S →
  (nextM mi i S = some none → J.stop i H') ∧ (∀ d, nextM mi i S = some (some d) → J.go i H' ∧ ∀ x H2, J.yld i H' x H2 → Stp r' H' r' H2 ∧ ROk K r' H2 S ∧ VR K r' H2 d x)
theorem WkR.mono {K : PySem.W.Frag} {r r1 : List Addr} {H H1 : Hp} {mi : MI} {J : It} (s : Stp r H r1 H1) (h : WkR K r H mi J) : WkR K r1 H1 mi J := fun r' H' S i s' o => h r' H' S i (s.trans s') o
def wI (X : Cx) (tg e : Expr) : TI := fun σ H R => ∀ (pins : List (Addr × Obj)) (s : Shared), Inv X pins σ H s → wpAny (model X.prog X.w) X.A (eval e X.env) (fun v s1 => wpAny (model X.prog X.w) X.A (pyIter v) (PIE X pins σ tg R) X.xe s1) X.xe s
theorem pi_wI (X : Cx) (tg e : Expr) : PI X tg e (wI X tg e) := ⟨fun pins s _ _ _ I h => h pins s I⟩
abbrev MIt := En → Store → Res MI
def SndI (X : Cx) (tg e : Expr) (m : MIt) : Prop := ∀ (W : WX), Takes X W → ∀ (en : En) (σ : L2.St) (r : List Addr) (H : Hp) (S : Store) (R : It → Hp → Prop), ER X.K r H en σ → ROk X.K r H S → Dn X.K r H (WkR X.K) (m en S) R (WE W σ) → wI X tg e σ H R
theorem wI_of {X : Cx} {tg e : Expr} {t : TI} (h : PI X tg e t) {σ : L2.St} {H : Hp} {R : It → Hp → Prop} (q : t σ H R) : wI X tg e σ H R := fun pins s I => h.run pins s σ H R I q
theorem sqL_eq {K : PySem.W.Frag} {H : Hp} {a : Addr} {vs ws : List V} (h1 : H a = some (.lst vs)) (h2 : SqL K H a ws) (hk : K.lookup a = none) : ws = vs := by
  rcases h2 with (h | ⟨o, h⟩) | ⟨o, its, n, h, _⟩
  · rw [h1] at h; cases h; rfl
  · rw [h1] at h; cases h
  · rw [hk] at h; cases h
end
end Q

namespace Q
open PySem PySem.Spec PyProof.Rows L2
section
variable {X : Cx} {k : Nat} {st : Stmt} {rest : List Stmt} {ms mr mu : MS} {a b c e : Expr} {ma mb me : ME} {mt : MT} {pos : Pos} {tg iter : Expr} {mi : MIt} {g : Pat} {own : List Nat}
/-! ### simple iterables -/
def itD (d : D) (S : Store) : Option MI := match d with
  | .tup xs => some (.vals xs)
  | .kl xs => some (.vals xs)
  | .ref n => match S[n]? with
    | some (.lst _) => some (.lst n)
    | _ => none
  | _ => none
/-- for .. in a list or a tuple -/
def iSeq (m : ME) : MIt := fun en S => (m en S).bind fun d S1 => match itD d S1 with
  | some i => .ok i S1
  | none => .bad
theorem wk_tup {r : List Addr} {H : Hp} {p : Addr} {xs : List D} {vs : List V} (hs : SqT X.K H p vs) (hv : VRs X.K r H xs vs) : WkR X.K r H (.vals xs) (Itt X.K p) := by
  intro r' H' S i s o
  have hs := s.sqT hs
  have hv := hv.mono s
  refine ⟨fun e => ⟨vs, hs, ?_⟩, fun d e => ?_⟩
  · have e : xs[i]? = none := Option.some.inj e
    rw [← hv.length]
    exact List.getElem?_eq_none_iff.mp e
  · have e : xs[i]? = some d := Option.some.inj e
    obtain ⟨v, h1, h2⟩ := hv.get e
    refine ⟨⟨vs, v, hs, h1⟩, fun x H2 y => ?_⟩
    obtain ⟨rfl, h3⟩ := y
    have := h3 vs hs
    rw [h1] at this
    cases this
    exact ⟨Stp.refl _ _, o, h2⟩
theorem wk_kl {r : List Addr} {H : Hp} {p : Addr} {xs : List D} {vs : List V} (hs : SqF X.K H p vs) (hv : VRs X.K r H xs vs) : WkR X.K r H (.vals xs) (Itl X.K p) := by
  intro r' H' S i s o
  have hs := (s.sqF hs).l
  have hv := hv.mono s
  refine ⟨fun e => ⟨vs, hs, ?_⟩, fun d e => ?_⟩
  · have e : xs[i]? = none := Option.some.inj e
    rw [← hv.length]
    exact List.getElem?_eq_none_iff.mp e
  · have e : xs[i]? = some d := Option.some.inj e
    obtain ⟨v, h1, h2⟩ := hv.get e
    refine ⟨⟨vs, v, hs, h1⟩, fun x H2 y => ?_⟩
    obtain ⟨rfl, h3⟩ := y
    have := h3 vs hs
    rw [h1] at this
    cases this
    exact ⟨Stp.refl _ _, o, h2⟩
theorem wk_lst {r : List Addr} {H : Hp} {p : Addr} {n : Nat} (hp : r[n]? = some p) : WkR X.K r H (.lst n) (Itl X.K p) := by
  intro r' H' S i s o
  have hp := s.pre _ _ hp
  have key : ∀ (xs : List D) (vs : List V), SqL X.K H' p vs → VRs X.K r' H' xs vs → nextM (.lst n) i S = some xs[i]? → (nextM (.lst n) i S = some none → (Itl X.K p).stop i H') ∧ (∀ d, nextM (.lst n) i S = some (some d) → (Itl X.K p).go i H' ∧ ∀ x H2, (Itl X.K p).yld i H' x H2 → Stp r' H' r' H2 ∧ ROk X.K r' H2 S ∧ VR X.K r' H2 d x) := by
    intro xs vs hs hv en
    refine ⟨fun e => ⟨vs, hs, ?_⟩, fun d e => ?_⟩
    · have e : xs[i]? = none := Option.some.inj (en.symm.trans e)
      rw [← hv.length]
      exact List.getElem?_eq_none_iff.mp e
    · have e : xs[i]? = some d := Option.some.inj (en.symm.trans e)
      obtain ⟨v, h1, h2⟩ := hv.get e
      refine ⟨⟨vs, v, hs, h1⟩, fun x H2 y => ?_⟩
      obtain ⟨rfl, h3⟩ := y
      have := h3 vs hs
      rw [h1] at this
      cases this
      exact ⟨Stp.refl _ _, o, h2⟩
  cases q : S[n]? with
  | none =>
    have e : nextM (.lst n) i S = none := by unfold nextM; rw [q]
    rw [e]
    exact ⟨fun z => (nomatch z), fun _ z => (nomatch z)⟩
  | some ob =>
    have ho := o.ob n ob p q hp
    cases ob with
    | lst xs => obtain ⟨vs, h1, h2⟩ := ho; exact key xs vs (.of h1) h2 (by unfold nextM; rw [q])
    | _ =>
      have e : nextM (.lst n) i S = none := by unfold nextM; rw [q]
      rw [e]
      exact ⟨fun z => (nomatch z), fun _ z => (nomatch z)⟩
theorem PIE.of {pins : List (Addr × Obj)} {σ : L2.St} {H : Hp} {s : Shared} {R : It → Hp → Prop} {v : Value} {x : V} (I : Inv X pins σ H s) (rv : RelV x v) (h : (∃ a, x = .ref a ∧ (∃ xs, SqL X.K H a xs) ∧ R (Itl X.K a) H) ∨ (∃ a, x = .ref a ∧ (∃ xs, SqT X.K H a xs) ∧ R (Itt X.K a) H)) :
    wpAny (model X.prog X.w) X.A (pyIter v) (PIE X pins σ tg R) X.xe s := by
  rcases h with ⟨a, e, ⟨xs, hq⟩, q⟩ | ⟨a, e, ⟨xs, hq⟩, q⟩
  · subst e
    cases rv
    obtain ⟨its, rv, p, hz⟩ := I.list hq
    refine wpAny_pyIter_list p.isList ?_
    refine ⟨s.heap.objs.size, [s.heap.objs.size], _, _, H, rfl, I.kept (t' := s.toks) fun b o e => Heap.get?_push_of_some _ e, turn_list a _, ⟨_, Heap.get?_push_size _ rfl, rfl, rfl⟩, fun b hb => ?_, q⟩
    have e : b = s.heap.objs.size := by simpa using hb
    subst e
    exact I.fpOk (Nat.le_refl _) (I.hok.fresh (Nat.le_refl _))
  · subst e
    cases rv
    obtain ⟨its, rv, p, hz⟩ := I.tuple hq
    refine wpAny_pyIter_tuple (show s.heap.IsTuple a its.toArray from p) ?_
    refine ⟨s.heap.objs.size, [s.heap.objs.size], _, _, H, rfl, I.kept (t' := s.toks) fun b o e => Heap.get?_push_of_some _ e, turn_tuple a _, ⟨_, Heap.get?_push_size _ rfl, rfl, rfl⟩, fun b hb => ?_, q⟩
    have e : b = s.heap.objs.size := by simpa using hb
    subst e
    exact I.fpOk (Nat.le_refl _) (I.hok.fresh (Nat.le_refl _))
theorem i_seq (ha : SndE X a ma) : SndI X tg a (iSeq ma) := by
  intro W tk en σ r H S R er ro dn pins s I
  refine thn (ha W tk en σ r H S _ er ro (Dn.imp (Dn.bind dn) fun x H1 ⟨d, S1, r1, e1, s1, o1, k1, d1⟩ => (?_ : (∃ a, x = .ref a ∧ (∃ xs, SqL X.K H1 a xs) ∧ R (Itl X.K a) H1) ∨ (∃ a, x = .ref a ∧ (∃ xs, SqT X.K H1 a xs) ∧ R (Itt X.K a) H1))) pins s I) fun v s1 ⟨x, H1, I1, rv, q⟩ => PIE.of I1 rv q
  cases d with
  | tup xs =>
    obtain ⟨p, vs, rfl, hs, hv⟩ := k1
    exact .inr ⟨p, rfl, ⟨vs, hs⟩, Dn.ok_here (R := WkR X.K) (a := .vals xs) d1 o1 (wk_tup hs hv)⟩
  | kl xs =>
    obtain ⟨p, vs, rfl, hs, hv⟩ := k1
    exact .inl ⟨p, rfl, ⟨vs, hs.l⟩, Dn.ok_here (R := WkR X.K) (a := .vals xs) d1 o1 (wk_kl hs hv)⟩
  | ref n =>
    obtain ⟨p, hp, rfl⟩ := k1
    unfold itD at d1
    dsimp only at d1
    cases q : S1[n]? with
    | none => rw [q] at d1; exact d1.elim
    | some ob =>
      rw [q] at d1
      have ho := o1.ob n ob p q hp
      cases ob with
      | lst xs => obtain ⟨vs, h1, h2⟩ := ho; exact .inl ⟨p, rfl, ⟨vs, .of h1⟩, Dn.ok_here (R := WkR X.K) (a := .lst n) d1 o1 (wk_lst hp)⟩
      | _ => exact d1.elim
  | _ => exact d1.elim
def smallI (i : Int) : Bool := decide (-(2 ^ 62) ≤ i) && decide (i < 2 ^ 62)
theorem smallI_ok {i : Int} (h : smallI i = true) : -(2 ^ 62) ≤ i ∧ i < 2 ^ 62 := by
  unfold smallI at h
  rw [Bool.and_eq_true] at h
  exact ⟨of_decide_eq_true h.1, of_decide_eq_true h.2⟩
def rng1 (ds : List D) : Option MI := match ds with
  | [.int j] => if smallI j = true then some (.rng 0 j.toNat) else none
  | _ => none
def rng2 (ds : List D) : Option MI := match ds with
  | [.int i, .int j] => if smallI i = true ∧ smallI j = true then some (.rng i (j - i).toNat) else none
  | _ => none
def iRng1M (m : MA) : MIt := fun en S => (m en S).bind fun ds S1 => match rng1 ds with
  | some i => .ok i S1
  | none => .bad
def iRng2M (m : MA) : MIt := fun en S => (m en S).bind fun ds S1 => match rng2 ds with
  | some i => .ok i S1
  | none => .bad
theorem wk_rng {r : List Addr} {H : Hp} {lo : Int} {n : Nat} : WkR X.K r H (.rng lo n) (Itr lo n) := by
  intro r' H' S i s o
  unfold nextM
  refine ⟨fun e => ?_, fun d e => ?_⟩
  · by_cases hi : i < n
    · simp only [hi, if_true] at e; cases e
    · exact Nat.le_of_not_lt hi
  · by_cases hi : i < n
    · simp only [hi, if_true] at e
      cases e
      refine ⟨hi, fun x H2 y => ?_⟩
      obtain ⟨rfl, rfl⟩ := y
      exact ⟨Stp.refl _ _, o, rfl⟩
    · simp only [hi, if_false] at e; cases e
theorem i_rng1 {p : Pos} {m : MA} (hg : Gl X "range") (hm : X.mg "range" = none) (ha : SndA X [a] m) (hs : starEach [a] X.env = [(false, eval a X.env)] := by rfl) : SndI X tg (.Call (.Name "range" p) [a] [] pos) (iRng1M m) := by
  intro W tk en σ r H S R er ro dn
  refine wI_of (pi_range1 hg hm (pa_wA X _) hs) ?_
  refine ha W tk en σ r H S _ er ro (Dn.imp (Dn.bind dn) fun xs H1 ⟨ds, S1, r1, e1, s1, o1, k1, d1⟩ => ?_)
  cases q : rng1 ds with
  | none => rw [q] at d1; exact d1.elim
  | some i =>
    rw [q] at d1
    unfold rng1 at q
    split at q
    · rename_i j
      obtain ⟨v, rfl, kv⟩ := k1.one_inv
      split at q
      · rename_i hj
        cases q
        obtain ⟨h1, h2⟩ := smallI_ok hj
        exact ⟨j, by rw [show v = .int j from kv], h1, h2, Dn.ok_here (R := WkR X.K) (a := .rng 0 j.toNat) d1 o1 wk_rng⟩
      · cases q
    · cases q
theorem i_rng2 {p : Pos} {m : MA} (hg : Gl X "range") (hm : X.mg "range" = none) (ha : SndA X [a, b] m) (hs : starEach [a, b] X.env = [(false, eval a X.env), (false, eval b X.env)] := by rfl) (hs2 : starEach [b] X.env = [(false, eval b X.env)] := by rfl) : SndI X tg (.Call (.Name "range" p) [a, b] [] pos) (iRng2M m) := by
  intro W tk en σ r H S R er ro dn
  refine wI_of (pi_range2 hg hm (pa_wA X _) hs hs2) ?_
  refine ha W tk en σ r H S _ er ro (Dn.imp (Dn.bind dn) fun xs H1 ⟨ds, S1, r1, e1, s1, o1, k1, d1⟩ => ?_)
  cases q : rng2 ds with
  | none => rw [q] at d1; exact d1.elim
  | some i =>
    rw [q] at d1
    unfold rng2 at q
    split at q
    · rename_i i' j
      obtain ⟨v, w, rfl, kv, kw⟩ := k1.two_inv
      split at q
      · rename_i hj
        cases q
        obtain ⟨h1, h2⟩ := smallI_ok hj.1
        obtain ⟨h3, h4⟩ := smallI_ok hj.2
        exact ⟨i', j, by rw [show v = .int i' from kv, show w = .int j from kw], ⟨h1, h2, h3, h4⟩, Dn.ok_here (R := WkR X.K) (a := .rng i' (j - i').toNat) d1 o1 wk_rng⟩
      · cases q
    · cases q

/-! ### for -/
def forL (mi : MI) (g : Pat) (mb : MS) : Nat → Nat → En → Store → SRes
  | 0, _, _, _ => .bad
  | n + 1, i, en, S => match nextM mi i S with
    | none => .bad
    | some none => .nx en S
    | some (some d) => match g d S with
      | none => .bad
      | some ps => match mb (setsE en ps) S with
        | .nx e S2 => forL mi g mb n (i + 1) e S2
        | .ct e S2 => forL mi g mb n (i + 1) e S2
        | .bk e S2 => .nx e S2
        | .rt d S2 => .rt d S2
        | .err C x e S2 => .err C x e S2
        | .bad => .bad
def mFor (m : MIt) (g : Pat) (mb : MS) (n : Nat) : MS := fun en S => (m en S).stm en fun mi S1 => forL mi g mb n 0 en S1
theorem s_for {body : List Stmt} (n : Nat) (hp : PassesOwn (model X.prog X.w) X.A X.env X.xe) (hc : X.calm = true) (hi : SndI X tg iter mi) (hg : SndG X tg own g) (hb : SndSs X body ms) (hs : ∀ x, foldedSetIterable iter X.env x = pure x := by intro _; rfl) :
    SndS X (.For tg iter body [] pos) (mFor mi g ms n) := by
  intro W tk en σ r H S D er ro dn
  refine wS_of (ps_for hp hc (pi_wI X tg iter) (pg_wG X tg) (pss_wSs X body) hs) ?_
  refine hi W tk en σ r H S _ er ro (Dn.imp (DnS.stm (R := WkR X.K) er dn) fun J H1 ⟨mi, S1, r1, e1, s1, o1, k1, er1, d1⟩ => ?_)
  refine ⟨fun i m σ H' => ∃ en r' S', ER X.K r' H' en σ ∧ ROk X.K r' H' S' ∧ WkR X.K r' H' mi J ∧ DnS X.K r' H' (forL mi g ms m i en S') D W, ⟨n, en, r1, S1, er1, o1, k1, d1⟩, ?_⟩
  rintro i m σ H2 ⟨en, r2, S2, er2, o2, k2, d2⟩
  cases m with
  | zero => exact d2.elim
  | succ m =>
    unfold forL at d2
    obtain ⟨w1, w2⟩ := k2 r2 H2 S2 i (Stp.refl _ _) o2
    cases q : nextM mi i S2 with
    | none => rw [q] at d2; exact d2.elim
    | some od =>
      cases od with
      | none => rw [q] at d2; exact .inl ⟨w1 q, DnS.nx_here (e := en) d2 o2 er2⟩
      | some d =>
        rw [q] at d2
        obtain ⟨hgo, hy⟩ := w2 d q
        dsimp only at d2
        cases qg : g d S2 with
        | none => rw [qg] at d2; exact d2.elim
        | some ps =>
          rw [qg] at d2
          dsimp only at d2
          refine .inr ⟨hgo, fun σ' H' => ∃ en r' S', ER X.K r' H' en σ' ∧ ROk X.K r' H' S' ∧ WkR X.K r' H' mi J ∧ DnS X.K r' H' (forL mi g ms m (i + 1) en S') D W, fun σ' H' h => ⟨m, Nat.lt_succ_self m, h⟩, fun x H3 y => ?_⟩
          obtain ⟨s3, o3, k3⟩ := hy x H3 y
          refine hg d x ps σ r2 H3 S2 _ qg k3 o3 fun vs hps _ => ?_
          refine hb W tk (setsE en ps) _ r2 H3 S2 _ (hps.sets (er2.mono s3)) o3 ?_
          have d2 := DnS.mono s3 d2
          have k2 := k2.mono s3
          cases qb : ms (setsE en ps) S2 with
          | nx e S4 => rw [qb] at d2; exact fun r' H' σ' s o e' => ⟨e, r', S4, e', o, k2.mono s, DnS.mono s d2⟩
          | ct e S4 => rw [qb] at d2; exact fun r' H' σ' s o e' => ⟨e, r', S4, e', o, k2.mono s, DnS.mono s d2⟩
          | bk e S4 => rw [qb] at d2; exact d2
          | rt d S4 => rw [qb] at d2; exact d2
          | err C x e S4 => rw [qb] at d2; exact d2
          | bad => rw [qb] at d2; exact d2.elim

/-! ### a list comprehension -/
def Res.calm {α : Type} (m : Res α) : Res α := match m with
  | .err _ _ _ => .bad
  | q => q
def compL (mi : MI) (g : Pat) (mt : MT) (me : ME) (n0 : Nat) : Nat → Nat → En → Store → Res D
  | 0, _, _, _ => .bad
  | n + 1, i, en, S => match nextM mi i S with
    | none => .bad
    | some none => .ok (.ref n0) S
    | some (some d) => match g d S with
      | none => .bad
      | some ps => (mt (setsE en ps) S).calm.bind fun b S1 => match b with
        | false => compL mi g mt me n0 n (i + 1) en S1
        | true => (me (setsE en ps) S1).calm.bind fun z S2 => match S2[n0]? with
          | some (.lst acc) => if acc.length < sizeLine then compL mi g mt me n0 n (i + 1) en (S2.set n0 (.lst (acc ++ [z]))) else .bad
          | _ => .bad
def wipeD (e : En) : List Nat → En
  | [] => e
  | v :: vs => (wipeD e vs).set v none
def mComp (m : MIt) (g : Pat) (mt : MT) (me : ME) (own : List Nat) (n : Nat) : ME := fun en S => (m en S).bind fun mi S1 => compL mi g mt me S1.length n 0 (wipeD en own) (S1 ++ [.lst []])
theorem ER.setNone {K : PySem.W.Frag} {r : List Addr} {H : Hp} {e : En} {σ : L2.St} (h : ER K r H e σ) (i : Nat) : ER K r H (e.set i none) (σ.set i none) :=
  ⟨by rw [List.length_set, List.length_set]; exact h.len, fun j d' q => by
    by_cases e' : j = i
    · subst e'
      by_cases hl : j < e.length
      · rw [List.getElem?_set_self hl] at q; cases q
      · rw [List.getElem?_eq_none (by rw [List.length_set]; omega)] at q; cases q
    · rw [List.getElem?_set_ne (Ne.symm e')] at q
      obtain ⟨v', h1, h2⟩ := h.at_ j d' q
      exact ⟨v', by rw [List.getElem?_set_ne (Ne.symm e')]; exact h1, h2⟩⟩
theorem ER.wipe {K : PySem.W.Frag} {r : List Addr} {H : Hp} {e : En} {σ : L2.St} (h : ER K r H e σ) : ∀ vs : List Nat, ER K r H (wipeD e vs) (wipe σ vs)
  | [] => h
  | v :: vs => (ER.wipe h vs).setNone v
theorem wipe_get (σ : L2.St) (i : Nat) : ∀ vs : List Nat, (wipe σ vs)[i]? = if i ∈ vs then (if i < σ.length then some none else none) else σ[i]?
  | [] => by simp [wipe]
  | v :: vs => by
    unfold wipe
    by_cases e : v = i
    · subst e
      rw [if_pos List.mem_cons_self]
      by_cases hl : v < σ.length
      · rw [if_pos hl, List.getElem?_set_self (by rw [wipe_length]; exact hl)]
      · rw [if_neg hl, List.getElem?_eq_none (by rw [List.length_set, wipe_length]; omega)]
    · rw [List.getElem?_set_ne e, wipe_get σ i vs]
      by_cases hm : i ∈ vs
      · rw [if_pos hm, if_pos (List.mem_cons_of_mem _ hm)]
      · rw [if_neg hm, if_neg (fun z => (List.mem_cons.mp z).elim (fun q => e q.symm) hm)]
theorem setsV_length : ∀ (ps : List (Nat × V)) (σ : L2.St), (setsV σ ps).length = σ.length
  | [], _ => rfl
  | (i, d) :: l, σ => by
    show (setsV (σ.set i (some d)) l).length = _
    rw [setsV_length l, List.length_set]
theorem setsV_get {vs : List Nat} {i : Nat} (hi : i ∉ vs) : ∀ (ps : List (Nat × V)) (σ : L2.St), (∀ p ∈ ps, p.1 ∈ vs) → (setsV σ ps)[i]? = σ[i]?
  | [], _, _ => rfl
  | (j, d) :: l, σ, h => by
    show (setsV (σ.set j (some d)) l)[i]? = _
    rw [setsV_get hi l _ fun p hp => h p (List.mem_cons_of_mem _ hp), List.getElem?_set_ne]
    intro e
    subst e
    exact hi (h (j, d) List.mem_cons_self)
theorem wipe_sets (σ : L2.St) (vs : List Nat) (ps : List (Nat × V)) (h : ∀ p ∈ ps, p.1 ∈ vs) : wipe (setsV (wipe σ vs) ps) vs = wipe σ vs := by
  apply List.ext_getElem?
  intro i
  rw [wipe_get]
  by_cases hm : i ∈ vs
  · rw [if_pos hm, setsV_length, wipe_length, wipe_get, if_pos hm]
  · rw [if_neg hm, setsV_get hm ps _ h]
theorem Dn.calm {K : PySem.W.Frag} {r : List Addr} {H : Hp} {α β : Type} {R : List Addr → Hp → α → β → Prop} {m : Res α} {Q : β → Hp → Prop} {W W' : XK} (h : Dn K r H R m.calm Q W) : Dn K r H R m Q W' := by
  cases m with
  | ok a S => exact h
  | err C n S => exact h.elim
  | bad => exact h
theorem takes_blk {s : Shared} {H : Hp} {scope : Scope} {cenv : Env} {fp : List Addr} : Takes (X.blk s H scope cenv fp) (fun _ _ _ _ => False) := fun u s' ⟨_, _, _, _, _, _, _, _, _, _, _, _, _, _, _, _, w⟩ => w.elim
abbrev InBlk (X : Cx) (scope : Scope) (Pr : Cx → Prop) : Prop := ∀ (s : Shared) (H : Hp) (C : Addr) (cl : List (Str × Addr)) (fp : List Addr), Pr (X.blk s H scope (compEnvC scope cl C X.env) fp)
/-- the tests of a clause -/
def SndF (X : Cx) (ifs : List Expr) (m : MT) : Prop := ∀ (W : WX), Takes X W → ∀ (en : En) (σ : L2.St) (r : List Addr) (H : Hp) (S : Store) (Q : Bool → Hp → Prop), ER X.K r H en σ → ROk X.K r H S → Dn X.K r H RT (m en S) Q (WE W σ) →
  ∀ (pins : List (Addr × Obj)) (s : Shared), Inv X pins σ H s → wpAny (model X.prog X.w) X.A (forIn ifs true fun c r => if r = true then do let ok ← isTrue c X.env (eval c X.env); pure (ForInStep.yield ok) else pure (ForInStep.yield r)) (TP X pins σ Q) X.xe s
def wF (X : Cx) (ifs : List Expr) : TT := fun σ H Q => ∀ (pins : List (Addr × Obj)) (s : Shared), Inv X pins σ H s → wpAny (model X.prog X.w) X.A (forIn ifs true fun c r => if r = true then do let ok ← isTrue c X.env (eval c X.env); pure (ForInStep.yield ok) else pure (ForInStep.yield r)) (TP X pins σ Q) X.xe s
theorem pts_wF (X : Cx) (ifs : List Expr) : PTs X ifs (wF X ifs) := ⟨fun pins s _ _ _ I h => h pins s I⟩
def mYes : MT := fun _ S => .ok true S
theorem f_nil : SndF X [] mYes := fun W tk en σ r H S Q er ro dn pins s I => pts_nil.run pins s σ H Q I (Dn.ok_here (R := RT) (a := true) (v := true) dn ro rfl)
theorem f_one (h : SndT X c mt) : SndF X [c] mt := fun W tk en σ r H S Q er ro dn pins s I => (pts_one (pt_wT X c)).run pins s σ H Q I (h W tk en σ r H S Q er ro dn)
theorem tLc_of {wi : TI} {gg : TG} {tt : TT} {te : TE} {own : List Nat} {mi : MI} {J : It} {en : En} {σ : L2.St} {r : List Addr} {H : Hp} {S : Store} {Q : VK} {W : WX} {n : Nat} (er : ER X.K r H en σ) (o1 : ROk X.K r H S) (k1 : WkR X.K r H mi J)
    (hg : ∀ (d : D) (v : V) (ps : List (Nat × D)) (σ : L2.St) (r : List Addr) (H : Hp) (S : Store) (Q : L2.St → Hp → Prop), g d S = some ps → VR X.K r H d v → ROk X.K r H S → (∀ vs, PR X.K r H ps vs → (∀ p ∈ vs, p.1 ∈ own) → Q (setsV σ vs) H) → gg v σ H Q)
    (ht : ∀ (en : En) (σ : L2.St) (r : List Addr) (H : Hp) (S : Store) (Q : Bool → Hp → Prop), ER X.K r H en σ → ROk X.K r H S → Dn X.K r H RT (mt en S) Q (fun _ _ _ => False) → tt σ H Q)
    (he : ∀ (en : En) (σ : L2.St) (r : List Addr) (H : Hp) (S : Store) (Q : VK), ER X.K r H en σ → ROk X.K r H S → Dn X.K r H (VR X.K) (me en S) Q (fun _ _ _ => False) → te σ H Q)
    (dn : Dn X.K r H (VR X.K) (compL mi g mt me S.length n 0 (wipeD en own) (S ++ [.lst []])) Q (WE W σ)) :
    ∀ D, H D = none → ∃ Wp : Nat → Nat → Hp → Prop, (∃ m, Wp 0 m (upd H D (.lst []))) ∧ ∀ i m H, Wp i m H →
      (J.stop i H ∧ Q (.ref D) H) ∨ (J.go i H ∧ ∃ Nx : Hp → Prop, (∀ H', Nx H' → ∃ m', m' < m ∧ Wp (i + 1) m' H') ∧ ∀ x H', J.yld i H x H' → gg x (wipe σ own) H' fun σ2 H2 => wipe σ2 own = wipe σ own ∧ tt σ2 H2 fun b H3 =>
        if b = true then te σ2 H3 fun y H4 => ∃ acc, H4 D = some (.lst acc) ∧ acc.length < sizeLine ∧ Nx (upd H4 D (.lst (acc ++ [y]))) else Nx H3) := by
  intro Dd hD
  obtain ⟨n1, n2, n3⟩ := new_lst (X := X) (ds := []) (vs := []) o1 rfl hD
  have n3 : (r ++ [Dd])[S.length]? = some Dd := by obtain ⟨a, h1, h2⟩ := n3; cases h2; exact h1
  refine ⟨fun i m H' => ∃ r' S', ER X.K r' H' (wipeD en own) (wipe σ own) ∧ ROk X.K r' H' S' ∧ WkR X.K r' H' mi J ∧ r'[S.length]? = some Dd ∧ Dn X.K r' H' (VR X.K) (compL mi g mt me S.length m i (wipeD en own) S') Q (WE W σ), ⟨n, r ++ [Dd], S ++ [.lst []], (er.mono n1).wipe own, n2, k1.mono n1, n3, Dn.mono n1 dn⟩, ?_⟩
  rintro i m H2 ⟨r2, S2, er2, o2, k2, hd2, d2⟩
  cases m with
  | zero => exact d2.elim
  | succ m =>
    unfold compL at d2
    obtain ⟨w1, w2⟩ := k2 r2 H2 S2 i (Stp.refl _ _) o2
    cases q : nextM mi i S2 with
    | none => rw [q] at d2; exact d2.elim
    | some od =>
      cases od with
      | none => rw [q] at d2; exact .inl ⟨w1 q, Dn.ok_here (R := VR X.K) (a := .ref S.length) d2 o2 ⟨Dd, hd2, rfl⟩⟩
      | some d =>
        rw [q] at d2
        obtain ⟨hgo, hy⟩ := w2 d q
        dsimp only at d2
        cases qg : g d S2 with
        | none => rw [qg] at d2; exact d2.elim
        | some ps =>
          rw [qg] at d2
          dsimp only at d2
          refine .inr ⟨hgo, fun H' => ∃ r' S', ER X.K r' H' (wipeD en own) (wipe σ own) ∧ ROk X.K r' H' S' ∧ WkR X.K r' H' mi J ∧ r'[S.length]? = some Dd ∧ Dn X.K r' H' (VR X.K) (compL mi g mt me S.length m (i + 1) (wipeD en own) S') Q (WE W σ), fun H' h => ⟨m, Nat.lt_succ_self m, h⟩, fun x H3 y => ?_⟩
          obtain ⟨s3, o3, k3⟩ := hy x H3 y
          have d2 := Dn.mono s3 d2
          have er3 := er2.mono s3
          have wk3 := k2.mono s3
          have hd3 := s3.pre _ _ hd2
          refine hg d x ps _ r2 H3 S2 _ qg k3 o3 fun vs hps hown => ⟨wipe_sets σ own vs hown, ?_⟩
          have ers := hps.sets er3
          refine ht _ _ r2 H3 S2 _ ers o3 (Dn.calm (Dn.imp (Dn.bind d2) fun b H4 ⟨b', S4, r4, e4, s4, o4, k4, d4⟩ => ?_))
          have k4 : b = b' := k4
          subst k4
          cases b with
          | false => exact ⟨r4, S4, er3.mono s4, o4, wk3.mono s4, s4.pre _ _ hd3, d4⟩
          | true =>
            show te _ H4 _
            refine he _ _ r4 H4 S4 _ (ers.mono s4) o4 (Dn.calm (Dn.imp (Dn.bind d4) fun y H5 ⟨z, S5, r5, e5, s5, o5, k5, d5⟩ => ?_))
            have hd5 := s5.pre _ _ (s4.pre _ _ hd3)
            cases ql : S5[S.length]? with
            | none => rw [ql] at d5; exact d5.elim
            | some ob =>
              rw [ql] at d5
              have ho := o5.ob _ ob Dd ql hd5
              cases ob with
              | lst acc =>
                obtain ⟨ws, h1, h2⟩ := ho
                obtain ⟨hz, d5⟩ := dn_if d5
                have ss : Stp r5 H5 r5 (upd H5 Dd (.lst (ws ++ [y]))) := Stp.mut h1 trivial
                refine ⟨ws, h1, by rw [← h2.length]; exact hz, r5, _, ((er3.mono s4).mono s5).mono ss, o5.mut (o := .lst (acc ++ [z])) hd5 h1 trivial ⟨ws ++ [y], upd_same, (h2.mono ss).append (VRs.one (k5.mono ss))⟩, ((wk3.mono s4).mono s5).mono ss, hd5, Dn.mono ss d5⟩
              | _ => exact d5.elim
def bG (X : Cx) (scope : Scope) (tg : Expr) : TG := fun v σ H Q => InBlk X scope fun Y => wG Y tg v σ H Q
def bF (X : Cx) (scope : Scope) (ifs : List Expr) : TT := fun σ H Q => InBlk X scope fun Y => wF Y ifs σ H Q
def bE (X : Cx) (scope : Scope) (e : Expr) : TE := fun σ H Q => InBlk X scope fun Y => wE Y e σ H Q
theorem pg_bG (scope : Scope) (s : Shared) (H : Hp) (C : Addr) (cl : List (Str × Addr)) (fp : List Addr) : PG (X.blk s H scope (compEnvC scope cl C X.env) fp) tg (bG X scope tg) := ⟨fun pins s' σ H' v u Q I rv h => h s H C cl fp pins s' u I rv⟩
theorem pts_bF (scope : Scope) {ifs : List Expr} (s : Shared) (H : Hp) (C : Addr) (cl : List (Str × Addr)) (fp : List Addr) : PTs (X.blk s H scope (compEnvC scope cl C X.env) fp) ifs (bF X scope ifs) := ⟨fun pins s' σ H' Q I h => h s H C cl fp pins s' I⟩
theorem pe_bE (scope : Scope) (s : Shared) (H : Hp) (C : Addr) (cl : List (Str × Addr)) (fp : List Addr) : PE (X.blk s H scope (compEnvC scope cl C X.env) fp) e (bE X scope e) := ⟨fun pins s' σ H' Q I h => h s H C cl fp pins s' I⟩
theorem e_comp {scope : Scope} {ow : List (Str × Nat)} {ifs : List Expr} (n : Nat) (hc : X.calm = true) (hN : X.N.Nodup) (hi : SndI X tg iter mi) (ok : BlkOk X.N X.env.scope scope ow)
    (hg : InBlk X scope fun Y => SndG Y tg (ow.map (·.2)) g) (ht : InBlk X scope fun Y => SndF Y ifs mt) (he : InBlk X scope fun Y => SndE Y e me) (hs : ∀ x, foldedSetIterable iter X.env x = pure x := by intro _; rfl) :
    SndE X (.ListComp e [⟨tg, iter, ifs, 0⟩] scope pos) (mComp mi g mt me (ow.map (·.2)) n) := by
  intro W tk en σ r H S Q er ro dn
  refine wE_of (pe_lc hc hN (pi_wI X tg iter) ok (pg_bG scope) (pts_bF scope) (pe_bE scope) hs) ?_
  refine hi W tk en σ r H S _ er ro (Dn.imp (Dn.bind dn) fun J H1 ⟨mi, S1, r1, e1, s1, o1, k1, d1⟩ => ?_)
  refine tLc_of (wi := wI X tg iter) (gg := bG X scope tg) (tt := bF X scope ifs) (te := bE X scope e) (er.mono s1) o1 k1 (fun d v ps σ r H S Q q kv ro hQ s H0 C cl fp => ?_) (fun en σ r H S Q er ro dn s H0 C cl fp => ?_) (fun en σ r H S Q er ro dn s H0 C cl fp => ?_) d1
  · exact hg s H0 C cl fp d v ps σ r H S Q q kv ro hQ
  · exact ht s H0 C cl fp _ takes_blk en σ r H S Q er ro dn
  · exact he s H0 C cl fp _ takes_blk en σ r H S Q er ro dn
/-- y = [..] on one line -/
def mSetC (i : Nat) (m : ME) : MS := mSet i m
theorem s_setC {i : Nat} {y : Str} {py : Pos} {scope : Scope} {ow : List (Str × Nat)} {ifs : List Expr} {spos : Pos} (n : Nat) (hc : X.calm = true) (hN : X.N.Nodup) (hy : X.N[i]? = some y) (hyl : X.env.scope.names.lookup y = some .local)
    (hsw : swapsWith (.ListComp e [⟨tg, iter, ifs, 0⟩] scope pos) (some (.Name y py)) spos.line X.env = pure true) (hi : SndI X tg iter mi) (ok : BlkOk X.N X.env.scope scope ow)
    (hg : InBlk X scope fun Y => SndG Y tg (ow.map (·.2)) g) (ht : InBlk X scope fun Y => SndF Y ifs mt) (he : InBlk X scope fun Y => SndE Y e me) (hs : ∀ x, foldedSetIterable iter X.env x = pure x := by intro _; rfl) :
    SndS X (.Assign [.Name y py] (.ListComp e [⟨tg, iter, ifs, 0⟩] scope pos) spos) (mSet i (mComp mi g mt me (ow.map (·.2)) n)) := by
  intro W tk en σ r H S D er ro dn
  refine wS_of (ps_setLc hc hN hy hyl hsw (pi_wI X tg iter) ok (pg_bG scope) (pts_bF scope) (pe_bE scope) hs) ?_
  have dn2 := Dn.imp (DnS.stm (R := VR X.K) er dn) fun x H1 ⟨d, S1, r1, e1, s1, o1, k1, er1, d1⟩ => DnS.nx_here (e := en.set i (some d)) (σ := σ.set i (some x)) d1 o1 (er1.set k1)
  refine hi W tk en σ r H S _ er ro (Dn.imp (Dn.bind dn2) fun J H1 ⟨mi, S1, r1, e1, s1, o1, k1, d1⟩ => ?_)
  refine tLc_of (wi := wI X tg iter) (gg := bG X scope tg) (tt := bF X scope ifs) (te := bE X scope e) (Q := fun x H1 => D.nx (σ.set i (some x)) H1) (er.mono s1) o1 k1 (fun d v ps σ r H S Q q kv ro hQ s H0 C cl fp => ?_) (fun en σ r H S Q er ro dn s H0 C cl fp => ?_) (fun en σ r H S Q er ro dn s H0 C cl fp => ?_) d1
  · exact hg s H0 C cl fp d v ps σ r H S Q q kv ro hQ
  · exact ht s H0 C cl fp _ takes_blk en σ r H S Q er ro dn
  · exact he s H0 C cl fp _ takes_blk en σ r H S Q er ro dn
end
end Q

namespace Q
open PySem PySem.Spec PyProof.Rows L2
/-! ### functions -/
abbrev MF := List D → Store → Res D
structure FnM (P : Program) (w : World) (K : PySem.W.Frag) (mg : Str → Option Value) (base : Heap) (k : Nat) (f : Addr) (fd : FuncData) (ps : List Str) (M : MF) : Prop where
  run : ∀ (A : Around) (outer : List Env) (s : Shared) (H : Hp) (args : Args) (us : List Value) (vs : List V) (r : List Addr) (ds : List D) (S : Store) (Q : VK) (E : XK),
    Room k A → A.guards = some [] → Env0 P w K mg base A outer s H → BindsTo s fd args (ps.zip us) → Vals vs us → ds.length = ps.length → VRs K r H ds vs → ROk K r H S → Dn K r H (VR K) (M ds S) Q E →
    codeAny (model P w) A (.call (.ref f) args) (CR (CX P w) outer P w H s Q E) s
theorem FnM.mono {P : Program} {w : World} {K : PySem.W.Frag} {mg : Str → Option Value} {base : Heap} {j k : Nat} {f : Addr} {fd : FuncData} {ps : List Str} {M : MF} (F : FnM P w K mg base j f fd ps M) (h : j ≤ k) : FnM P w K mg base k f fd ps M :=
  ⟨fun A outer s H args us vs r ds S Q E hr => F.run A outer s H args us vs r ds S Q E (hr.mono h)⟩
def startE (n : Nat) (ds : List D) : En := ds.map some ++ List.replicate (n - ds.length) none
def endM (m : SRes) : Res D := match m with
  | .nx _ S => .ok .non S
  | .rt d S => .ok d S
  | .err C n _ S => .err C n S
  | _ => .bad
/-- a def: n names, its body -/
def mDef (n : Nat) (m : MS) : MF := fun ds S => endM (m (startE n ds) S)
theorem ER.start {K : PySem.W.Frag} {r : List Addr} {H : Hp} {ds : List D} {vs : List V} (N : List Str) (h : VRs K r H ds vs) : ER K r H (startE N.length ds) (L2.start N vs) := by
  have hl := h.length
  refine ⟨?_, fun i d e => ?_⟩
  · unfold startE L2.start
    simp only [List.length_append, List.length_map, List.length_replicate]
    omega
  · unfold startE at e
    unfold L2.start
    by_cases hi : i < ds.length
    · rw [List.getElem?_append_left (by rw [List.length_map]; exact hi), List.getElem?_map] at e
      rw [List.getElem?_append_left (by rw [List.length_map, ← hl]; exact hi), List.getElem?_map]
      obtain ⟨d', h1, h2⟩ := Option.map_eq_some_iff.mp e
      cases h2
      obtain ⟨v, h3, h4⟩ := h.get h1
      exact ⟨v, by rw [h3]; rfl, h4⟩
    · rw [List.getElem?_append_right (by rw [List.length_map]; omega), List.getElem?_replicate] at e
      split at e <;> cases e
/-- what the body's end is for the caller -/
theorem DnS.of_end {K : PySem.W.Frag} {r : List Addr} {H : Hp} {m : SRes} {Q : VK} {E : XK} (h : Dn K r H (VR K) (endM m) Q E) : DnS K r H m { nx := fun _ H' => Q .non H', rt := Q } (fun c x _ H' => E c x H') := by
  cases m with
  | nx e S => exact fun r' H' σ' s o _ => h r' H' .non s o rfl
  | rt d S => exact fun r' H' v s o k => h r' H' v s o k
  | bk e S => exact h.elim
  | ct e S => exact h.elim
  | err C n e S => exact fun r' H' σ' x s o _ q => h r' H' x s o q
  | bad => exact h.elim
section
variable {P : Program} {w : World} {K : PySem.W.Frag} {mg : Str → Option Value} {base : Heap}
abbrev cxM (P : Program) (w : World) (K : PySem.W.Frag) (mg : Str → Option Value) (base : Heap) (N : List Str) (qual : Str) (scope : Scope) (f : Addr) (cd : Value) (A : Around) (outer : List Env) (s : Shared) (H : Hp) (E : XK) : Cx :=
  cxOf (CX P w) P w K mg base N qual scope f cd A outer s H E
theorem takes_cxM {N : List Str} {qual : Str} {scope : Scope} {f : Addr} {cd : Value} {A : Around} {outer : List Env} {s : Shared} {H : Hp} {E : XK} : Takes (cxM P w K mg base N qual scope f cd A outer s H E) (fun c x _ H' => E c x H') := takes_of rfl rfl rfl rfl
theorem owns_cxM {N : List Str} {qual : Str} {scope : Scope} {f : Addr} {cd : Value} {A : Around} {outer : List Env} {s : Shared} {H : Hp} {E : XK} : PassesOwn (model P w) (cxM P w K mg base N qual scope f cd A outer s H E).A (cxM P w K mg base N qual scope f cd A outer s H E).env (cxM P w K mg base N qual scope f cd A outer s H E).xe := passes_of (X := cxM P w K mg base N qual scope f cd A outer s H E) rfl
/-- a def of the text keeps its mirror -/
theorem fnM_of {k : Nat} {f : Addr} {x qual : Str} {params : Arguments} {body : List Stmt} {scope : Scope} {dvs : List V} {kws : List (Str × V)} {fd : FuncData} {N ps : List Str} {m : MS} (F : FunD K x qual params body scope dvs kws f fd) (Sc : FnScope N ps scope)
    (hbody : ∀ (cd : Value) (A : Around) (outer : List Env) (s : Shared) (H : Hp) (E : XK), Gd (cxM P w K mg base N qual scope f cd A outer s H E) k → PassesOwn (model P w) (cxM P w K mg base N qual scope f cd A outer s H E).A (cxM P w K mg base N qual scope f cd A outer s H E).env (cxM P w K mg base N qual scope f cd A outer s H E).xe →
      SndSs (cxM P w K mg base N qual scope f cd A outer s H E) body m) : FnM P w K mg base (k + 1) f fd ps (mDef N.length m) := by
  obtain ⟨oc, od, dV, kV, doc, pm, an, cdv, ct, osl, rfl, lk, hcd, _, _⟩ := F.ex
  constructor
  intro A outer s H args us vs r ds S Q E room gds e0 bnd rel hlen hrel ro dn
  have hKs : K.In s.heap := e0.mod.kin.keeps fun b o q => (e0.bs b o q).1
  have kinds : ∀ y ∈ ps.zip us, scope.names.lookup y.1 = some .local ∨ (scope.names.lookup y.1 = some .cell ∧ ((cellsFrom (s.heap.objs.size + 1) scope.names []).lookup y.1).isSome = true) := by
    rintro ⟨n, v⟩ hy
    have hp : n ∈ ps := (List.of_mem_zip hy).1
    rcases Sc.par n hp with q | q
    · exact Or.inl q
    · exact Or.inr ⟨q, PySem.W.cellsFrom_some _ _ _ (Or.inl q)⟩
  refine codeAny_call_function room.depth (hKs _ _ lk) rfl Sc.co Sc.gen rfl (PySem.W.codeRec_of hKs hcd) (bnd _ _ _ _ ?_)
  refine wpAny_newFunctionEnv_cells Sc.kind kinds ?_
  intro env he s1 inc
  subst he
  refine ⟨(e0.mod.nolimit.keeps fun b o q => (e0.bs b o q).1).keeps inc.toInCall.keep, codeAny_func ?_⟩
  have gd : Gd (cxM P w K mg base N qual scope f cdv A outer s H E) k := ⟨rfl, room.deeper _, gds⟩
  have inv : Inv (cxM P w K mg base N qual scope f cdv A outer s H E) [] (L2.start N vs) H s1 := inv_start Sc room.hd e0 (hrel.length.symm.trans hlen) rel inc
  have run := hbody cdv A outer s H E gd owns_cxM _ takes_cxM (startE N.length ds) (L2.start N vs) r H S _ (ER.start N hrel) ro (DnS.of_end dn) [] s1 inv
  refine wpAny_mono run (fun fl s' hs => ?_) fun e s' hs => hs
  have back : ∀ {σ' : L2.St} {H' : Hp} {v : V} {u : Value}, Inv (cxM P w K mg base N qual scope f cdv A outer s H E) [] σ' H' s' → RelV v u → Q v H' → CE outer P w H s Q u s' := by
    intro σ' H' v u J rv q
    exact ⟨v, H', J.os, J.bare, J.base, J.hok, rv, q⟩
  match fl, hs with
  | .ret u, ⟨v, σ', H', J, rv, q⟩ => exact back J rv q
  | .next, ⟨σ', H', J, q⟩ => exact back (v := V.non) (u := Value.none) J rfl q
  | .brk, ⟨_, _, _, q⟩ => exact q.elim
  | .cont, ⟨_, _, _, q⟩ => exact q.elim
end
/-! ### calls of defs -/
def mCallF (M : MF) (n : Nat) (dds : List D) (m : MA) : ME := fun en S => (m en S).bind fun ds S1 => if (ds ++ dds).length = n then M (ds ++ dds) S1 else .bad
section
variable {X : Cx} {k : Nat} {f : Addr} {fd : FuncData} {ps : List Str} {M : MF} {dvs : List V} {dds : List D} {dsv : List Value} {x : Str} {p pos : Pos} {e : Expr} {es : List Expr} {m : MA}
/-- the callee runs -/
theorem run_M {W : WX} {pins : List (Addr × Obj)} {σ : L2.St} {H : Hp} {s : Shared} {Q : VK} {us : List Value} {vs : List V} {ds : List D} {r : List Addr} {S : Store} (F : FnM X.prog X.w X.K X.mg X.base k f fd ps M) (g : Gd X k) (hb : Binds X.K fd ps dsv) (hd : Vals dvs dsv) (tk : Takes X W)
    (I : Inv X pins σ H s) (rv : Vals vs us) (hl : (ds ++ dds).length = ps.length) (kv : VRs X.K r H ds vs) (kd : VRs X.K r H dds dvs) (ro : ROk X.K r H S) (dn : Dn X.K r H (VR X.K) (M (ds ++ dds) S) Q (WE W σ)) :
    wpAny (model X.prog X.w) X.A (call (.ref f) us) (EP X pins σ Q) X.xe s := by
  have kk := kv.append kd
  have rr := rv.append hd
  have hlen : (us ++ dsv).length = ps.length := by rw [← rr.length, ← kk.length]; exact hl
  have go := F.run X.A X.stack s H ⟨us, []⟩ (us ++ dsv) (vs ++ dvs) r (ds ++ dds) S Q (WE W σ) g.room g.gd I.env0 (hb s us I.kIn hlen) rr hl kk ro dn
  refine wpAny_call (codeAny_mono go ?_)
  intro res s' hq
  match res, hq with
  | .error e, hq => exact tk e s' (XE.of_call I (fun _ _ _ h => h) hq)
  | .ok (.ret u), hq => exact I.after hq
  | .ok .next, hq => exact hq.elim
  | .ok .brk, hq => exact hq.elim
  | .ok .cont, hq => exact hq.elim
theorem e_call (F : FnM X.prog X.w X.K X.mg X.base k f fd ps M) (g : Gd X k) (hg : Gl X x) (hm : X.mg x = some (.ref f)) (hk : PySem.W.keepIn X.K (.ref f) = true) (hb : Binds X.K fd ps dsv) (hd : Vals dvs dsv) (kd : ∀ r H, VRs X.K r H dds dvs)
    (ha : SndA X (e :: es) m) (hdb : (x == ("__debug__" : Str)) = false := by decide) (he : starEach (e :: es) X.env = (false, eval e X.env) :: starEach es X.env := by rfl) (hpl : (backTo pos (starEach es X.env)).any (·.1) = false := by rfl) :
    SndE X (.Call (.Name x p) (e :: es) [] pos) (mCallF M ps.length dds m) := by
  intro W tk en σ r H S Q er ro dn pins s I
  refine wpAny_Call_Name_kw (ld_glob I hg hm ?_ hdb)
  have args := ha W tk en σ r H S _ er ro (Dn.bind dn) pos pins s I
  refine PySem.W.callWith_K (h₀ := X.base) I.ok.mod.kin hk (thn args ?_) he hpl
  rintro us s1 ⟨vs, H1, I1, rv, ds, S1, r1, e1, s1', o1, k1, d1⟩
  obtain ⟨hl, d1⟩ := dn_if d1
  exact ⟨I1.kIn, run_M F g hb hd tk I1 rv hl k1 (kd r1 H1) o1 d1⟩
theorem e_call0 (F : FnM X.prog X.w X.K X.mg X.base k f fd ps M) (g : Gd X k) (hg : Gl X x) (hm : X.mg x = some (.ref f)) (hk : PySem.W.keepIn X.K (.ref f) = true) (hb : Binds X.K fd ps dsv) (hd : Vals dvs dsv) (kd : ∀ r H, VRs X.K r H dds dvs)
    (hdb : (x == ("__debug__" : Str)) = false := by decide) : SndE X (.Call (.Name x p) [] [] pos) (mCallF M ps.length dds mNil) := by
  intro W tk en σ r H S Q er ro dn pins s I
  refine wpAny_Call_Name_kw (ld_glob I hg hm ?_ hdb)
  have dn : Dn X.K r H (VR X.K) (if ([] ++ dds : List D).length = ps.length then M ([] ++ dds) S else .bad) Q (WE W σ) := dn
  obtain ⟨hl, dn⟩ := dn_if dn
  exact PySem.W.callWith_K0 I.kIn hk (run_M (ds := []) (us := []) F g hb hd tk I .nil hl rfl (kd r H) ro dn)
end
/-! ### the law's end -/
theorem law_M {P : Program} {w : World} {K : PySem.W.Frag} {mg mb : Str → Option Value} {k : Nat} {fa a : Addr} {fd : FuncData} {x : Str} {M : MF} {s1 : Shared} {vs : List Value} {ns : List Int}
    (KX : K.In s1.heap) (hns : s1.heap.Ns mainGlobals mg) (hb : s1.heap.Ns builtinsNs mb) (hbb : ∀ x : Str, x ≠ "__name__" → mb x = bootBuiltins x) (hlim : s1.heap.NoLimit) (hg : s1.gens = #[])
    (ha : s1.heap.get? a = some { cls := .type "list", data := .seq vs.toArray }) (hi : IntsAre vs ns) (hl : ns.length ≤ sizeLine) (hr : Room k callerA)
    (F : ∀ base : Heap, K.In base → base.Ns mainGlobals mg → FnM P w K mg base k fa fd [x] M) (hbind : ∀ (s : Shared) (u : Value), BindsTo s fd ⟨[u], []⟩ [(x, u)])
    (hM : ∃ S', M [.kl (ns.map D.int)] [] = .ok (.bl true) S') :
    codeAny (model P w) callerA (.call (.ref fa) ⟨[.ref a], []⟩) (fun r s' => r = .ok (.ret (.bool true)) ∧ OldK s1.heap s'.heap ∧ s'.os = s1.os ∧ AllBare s'.gens) s1 := by
  have rv := vals_ints hi
  have lenV := hi.length
  obtain ⟨S', hM⟩ := hM
  have kvs : ∀ (r : List Addr) (H : Hp) (l : List Int), VRs K r H (l.map D.int) (l.map V.int) := by
    intro r H l
    induction l with
    | nil => rfl
    | cons i l ih => exact ⟨.int i, _, rfl, rfl, ih⟩
  have main : ∀ H : Hp, (∀ b, H b = none ∨ ∃ o xs, H b = some (.frz o (.lst xs))) → SqF K H a (ns.map V.int) → HOk P w H s1.heap → (∀ b, H b ≠ none → b = a ∧ K.lookup a = none) →
      codeAny (model P w) callerA (.call (.ref fa) ⟨[.ref a], []⟩) (fun r s' => r = .ok (.ret (.bool true)) ∧ OldK s1.heap s'.heap ∧ s'.os = s1.os ∧ AllBare s'.gens) s1 := by
    intro H hO hS hok hA
    have dictNone : ∀ {b : Addr} {o : Obj} {es : Array DictEntry} {ep : Nat}, s1.heap.get? b = some o → o.data = .dict es ep → H b = none := by
      intro b o es ep e d
      rcases Classical.em (H b = none) with h | h
      · exact h
      · obtain ⟨rfl, _⟩ := hA b h
        rw [ha] at e
        cases e
        cases (show Data.seq vs.toArray _ = Data.dict es ep from d)
    have nsB : ∀ {b : Addr} {m : Str → Option Value}, s1.heap.Ns b m → (hidT s1.heap H).Ns b m := by
      rintro b m ⟨o, es, ep, e, d, q⟩
      exact ⟨o, es, ep, hidT_get e (dictNone e d), d, q⟩
    have kinB : K.In (hidT s1.heap H) := by
      intro b o e
      refine hidT_get (KX b o e) ?_
      rcases Classical.em (H b = none) with h | h
      · exact h
      · obtain ⟨rfl, h2⟩ := hA b h
        rw [h2] at e
        cases e
    have limB : (hidT s1.heap H).NoLimit := by
      obtain ⟨mc, h1, h2⟩ := hlim
      exact ⟨mc, nsB h1, h2⟩
    have e0 : Env0 P w K mg (hidT s1.heap H) callerA [] s1 H :=
      ⟨rfl, ⟨kinB, nsB hns, ⟨mb, nsB hb, hbb⟩, limB⟩, fun b o e => of_hidT e, Nat.le_of_eq (hidT_size _ _), trivial, fun b hm => (List.not_mem_nil (show b ∈ ([] : List Addr) from hm)).elim, hok, .of_eq hg⟩
    have ro : ROk K [] H [] := ⟨rfl, List.nodup_nil, fun n o p e => by simp at e⟩
    have arg : VRs K [] H [.kl (ns.map D.int)] [.ref a] := ⟨.ref a, [], rfl, ⟨a, ns.map V.int, rfl, hS, kvs [] H ns⟩, rfl⟩
    have dn : Dn K [] H (VR K) (M [.kl (ns.map D.int)] []) (fun v _ => v = .bl true) (fun _ _ _ => False) := by
      rw [hM]
      exact fun r' H' v _ _ kv => kv
    refine codeAny_mono ((F _ kinB (nsB hns)).run callerA [] s1 H ⟨[.ref a], []⟩ [.ref a] [.ref a] [] _ [] _ _ hr rfl e0 (hbind s1 (.ref a)) (.cons rfl .nil) rfl arg ro dn) ?_
    intro res s' h
    match res, h with
    | .error e, ⟨_, _, _, _, _, _, _, _, _, _, _, _, hE⟩ => exact hE.elim
    | .ok .next, h => exact h.elim
    | .ok .brk, h => exact h.elim
    | .ok .cont, h => exact h.elim
    | .ok (.ret u), ⟨v, H', os, bare, un, hok', rv', q⟩ =>
      have q : v = .bl true := q
      subst q
      obtain rfl : u = Value.bool true := rv'
      refine ⟨rfl, OldK.of_keep fun b o e => ?_, os, bare⟩
      rcases hO b with z | ⟨ob, xs, z⟩
      · exact un.keep b o e z (List.not_mem_nil (a := b)) (List.not_mem_nil (a := b))
      · obtain ⟨e1, _⟩ := hok b _ z
        obtain ⟨e2, _⟩ := hok' b _ (un.frzs b ob _ z)
        rw [e] at e1
        cases e1
        exact e2
  cases hk : K.lookup a with
  | some o =>
    have e := KX a o hk
    rw [ha] at e
    cases e
    exact main (fun _ => none) (fun _ => .inl rfl) (.inr ⟨_, vs.toArray, _, hk, rfl, rfl, rfl, by rw [List.size_toArray, lenV]; exact hl, by simpa using rv⟩) (fun b u z => (nomatch (show (none : Option HO) = some u from z))) fun b z => (z rfl).elim
  | none =>
    let H1 : Hp := fun b => if b = a then some (.frz { cls := .type "list", data := .seq vs.toArray } (.lst (ns.map V.int))) else none
    have at_a : H1 a = some (.frz { cls := .type "list", data := .seq vs.toArray } (.lst (ns.map V.int))) := if_pos rfl
    have off_a : ∀ b, b ≠ a → H1 b = none := fun b h => if_neg h
    refine main H1 (fun b => ?_) (.inl ⟨_, at_a⟩) (fun b u z => ?_) fun b z => ?_
    · rcases Classical.em (b = a) with h | h
      · exact .inr ⟨_, _, by rw [h]; exact at_a⟩
      · exact .inl (off_a b h)
    · rcases Classical.em (b = a) with h | h
      · subst h
        rw [at_a] at z
        cases z
        exact ⟨ha, by rw [List.length_map]; exact hl, vs, _, rv, ha⟩
      · rw [off_a b h] at z
        cases z
    · rcases Classical.em (b = a) with h | h
      · exact ⟨h, hk⟩
      · exact (z (off_a b h)).elim
end Q

namespace Q
open PySem PySem.Spec PyProof.Rows L2
/-! ### a field is read, is set, a pair is changed: as first steps -/
section
variable {M : Model} {A : Around} {E : Value → Shared → Prop} {s : Shared} {β : Type} {R : β → Shared → Prop}
theorem rd {a : Addr} {o : Obj} {fl : Array Value} {i : Nat} {y : Value} {k : Value → Sem β} (e : s.heap.get? a = some o) (h : wpAny M A (k y) R E s) (dt : o.data = .fields fl := by rfl) (at' : fl[i]? = some y := by rfl) : wpAny M A (field (.ref a) i >>= k) R E s :=
  wpAny_bind (wpAny_field e dt at' h)
/-- an object of a class that keeps its state in fields -/
abbrev rec_ (c : Value) (fs : Array Value) : Obj := { cls := c, dict := none, data := .fields fs, slots := #[] }
variable {prog : Program} {w : World}
theorem wr {a : Addr} {c y : Value} {fs : Array Value} {i : Nat} {k : Unit → Sem β} (e : s.heap.get? a = some (rec_ c fs)) (lt : i < fs.size)
    (h : ∀ G, G.get? a = some (rec_ c (fs.setIfInBounds i y)) → Heap.SameBut a s.heap G → wpAny (model prog w) A (k ()) R E { s with heap := G }) : wpAny (model prog w) A (setField (.ref a) i y >>= k) R E s :=
  wpAny_bind (wpAny_setField_rec e lt h)
theorem up2 {T : Addr} {a b y : Value} {i : Nat} {k : Unit → Sem β} (e : IsPair s.heap T a b)
    (h : ∀ G, G.get? T = some { cls := .type "tuple", data := .seq ((#[a, b] : Array Value).setIfInBounds i y) } → Heap.SameBut T s.heap G → wpAny (model prog w) A (k ()) R E { s with heap := G }) :
    wpAny (model prog w) A (updateSeq T (·.setIfInBounds i y) >>= k) R E s :=
  wpAny_bind (wpAny_updateSeq_pair e h)
end
/-! ### iterators that other iterators draw from -/
structure Drw (P : Program) (w : World) (K : PySem.W.Frag) (J : It) (fp : List Addr) (it : Addr) (tn : Nat → Heap → Prop) : Prop where
  mem : it ∈ fp
  obj : ∀ n (G : Heap), tn n G → ∀ c ∈ fp, ∃ x, G.get? c = some x ∧ ∀ y, x.data ≠ .cell y
  keep : ∀ n (G G' : Heap), tn n G → (∀ c ∈ fp, ∀ x, G.get? c = some x → G'.get? c = some x) → tn n G'
  item : ∀ (X : Cx), X.prog = P → X.w = w → X.K = K → ∀ (A : Around) (i : Nat) (pins : List (Addr × Obj)) (s : Shared) (σ : L2.St) (H : Hp) (Q : Value → Shared → Prop) (E : Value → Shared → Prop), Inv X pins σ H s → (∀ b ∈ fp, FpOk X pins H b) → tn i s.heap → J.go i H →
    (∀ (u : Value) (v : V) (s' : Shared) (H' : Hp), Inv X pins σ H' s' → RelV v u → J.yld i H v H' → tn (i + 1) s'.heap → s.heap.objs.size ≤ s'.heap.objs.size → (∀ b, b < s.heap.objs.size → H b = none → H' b = none) → (∀ b o, b ∉ fp → s.heap.get? b = some o → s'.heap.get? b = some o) → Q u s') →
    wpAny (model P w) A (Builtin.SmallTypes.nextOf (.ref it)) Q E s
  done : ∀ (X : Cx), X.prog = P → X.w = w → X.K = K → ∀ (A : Around), A.handled = none → ∀ (i : Nat) (pins : List (Addr × Obj)) (s : Shared) (σ : L2.St) (H : Hp) (Q : Value → Shared → Prop) (E : Value → Shared → Prop), Inv X pins σ H s → (∀ b ∈ fp, FpOk X pins H b) → tn i s.heap → J.stop i H →
    (∀ (e : Addr) (s' : Shared), Inv X pins σ H s' → (∃ o, s'.heap.get? e = some o ∧ o.cls = .type "StopIteration") → (∀ b o, b ∉ fp → s.heap.get? b = some o → s'.heap.get? b = some o) → E (.ref e) s') →
    wpAny (model P w) A (Builtin.SmallTypes.nextOf (.ref it)) Q E s
theorem FpOk.to {X : Cx} {pins : List (Addr × Obj)} {H H' : Hp} {b : Addr} (h : FpOk X pins H b) (e : H' b = none) : FpOk X pins H' b := ⟨e, h.2⟩
section
variable {P : Program} {w : World} {K : PySem.W.Frag}
theorem drw_list (a it : Addr) : Drw P w K (Itl K a) [it] it (fun i h => h.IsListIter it a i) where
  mem := by simp
  obj := fun i h st b hb => by
    rw [List.mem_singleton.mp hb]
    obtain ⟨o, e, _, d⟩ := st
    exact ⟨o, e, fun v z => by rw [d] at z; cases z⟩
  keep := fun _ _ _ st k => st.at (k it (List.mem_singleton.mpr rfl))
  item := by
    intro X hP hw hK A i pins s σ H Q E I hf st hg hQ
    subst hP hw hK
    obtain ⟨xs, x, hq, hx⟩ := hg
    obtain ⟨its, rv, p, _⟩ := I.list hq
    obtain ⟨u, hu, ru⟩ := rv.get hx
    refine wpAny_nextOf_list_item st p.isList (x := u) (by simpa using hu) fun h' st' sb => ?_
    have I1 : Inv X pins σ H { s with heap := h' } := I.turnedL (t' := s.toks) (ch := [it]) (fun b o hb q => sb.extBut b o (by simpa using hb) q) hf
    exact hQ u x _ H I1 ru ⟨rfl, fun l hl => by rw [I.list_inj hl hq]; exact hx⟩ st' (Nat.le_of_eq sb.1.symm) (fun _ _ e => e) fun b o hb q => sb.extBut b o (by simpa using hb) q
  done := by
    intro X hP hw hK A hA i pins s σ H Q E I hf st hg hE
    subst hP hw hK
    obtain ⟨xs, hq, hl⟩ := hg
    obtain ⟨its, rv, p, _⟩ := I.list hq
    have l1 := rv.length
    refine wpAny_nextOf_list_end hA st p.isList (by simp; omega) fun h' e sb he => ?_
    exact hE e _ (I.turnedL (t' := s.toks) (ch := [it]) (fun b o hb q => sb b o (by simpa using hb) q) hf) he fun b o hb q => sb b o (by simpa using hb) q
theorem drw_tuple (a it : Addr) : Drw P w K (Itt K a) [it] it (fun i h => h.IsTupleIter it a i) where
  mem := by simp
  obj := fun i h st b hb => by
    rw [List.mem_singleton.mp hb]
    obtain ⟨o, e, _, d⟩ := st
    exact ⟨o, e, fun v z => by rw [d] at z; cases z⟩
  keep := fun _ _ _ st k => st.at (k it (List.mem_singleton.mpr rfl))
  item := by
    intro X hP hw hK A i pins s σ H Q E I hf st hg hQ
    subst hP hw hK
    obtain ⟨xs, x, hq, hx⟩ := hg
    obtain ⟨its, rv, p, _⟩ := I.tuple hq
    obtain ⟨u, hu, ru⟩ := rv.get hx
    refine RZ.nextOf_tuple_item st p (x := u) (by simpa using hu) fun h' st' sb => ?_
    have I1 : Inv X pins σ H { s with heap := h' } := I.turnedL (t' := s.toks) (ch := [it]) (fun b o hb q => sb.extBut b o (by simpa using hb) q) hf
    exact hQ u x _ H I1 ru ⟨rfl, fun l hl => by rw [I.tuple_inj hl hq]; exact hx⟩ st' (Nat.le_of_eq sb.1.symm) (fun _ _ e => e) fun b o hb q => sb.extBut b o (by simpa using hb) q
  done := by
    intro X hP hw hK A hA i pins s σ H Q E I hf st hg hE
    subst hP hw hK
    obtain ⟨xs, hq, hl⟩ := hg
    obtain ⟨its, rv, p, _⟩ := I.tuple hq
    have l1 := rv.length
    refine RZ.nextOf_tuple_end hA st p (by simp; omega) fun h' e sb he => ?_
    exact hE e _ (I.turnedL (t' := s.toks) (ch := [it]) (fun b o hb q => sb b o (by simpa using hb) q) hf) he fun b o hb q => sb b o (by simpa using hb) q
end
/-! ### what a zip or an enumerate remembers of the tuple it gave out -/
def outV : Option Addr → Value
  | none => .none
  | some T => rawInt T
abbrev IsZ (h : Heap) (z TI TO : Addr) (t : Option Addr) (f : Bool) : Prop :=
  h.get? z = some { cls := .type "zip", dict := none, data := .fields #[outV t, .bool f, .bool false, .ref TI, .ref TO], slots := #[] }
abbrev IsEn (h : Heap) (e it : Addr) (t : Option Addr) (f : Bool) (c : Int) (old : Value) : Prop :=
  h.get? e = some { cls := .type "enumerate", dict := none, data := .fields #[outV t, .bool f, .ref it, rawInt c, .none, old], slots := #[] }
section
variable {prog : Program} {w : World} {A : Around} {E : Value → Shared → Prop} {s : Shared}
/-- whether the tuple that was given out last is free again: the same question for both -/
theorem owned_free {a : Addr} {c : Value} {t : Option Addr} {f : Bool} {l : List Value} {Q : Bool → Shared → Prop} (hz : s.heap.get? a = some (rec_ c (outV t :: .bool f :: l).toArray))
    (h : ∀ (b f' : Bool) (G : Heap), G.get? a = some (rec_ c (outV t :: .bool f' :: l).toArray) → Heap.SameBut a s.heap G → Q b { s with heap := G }) : wpAny (model prog w) A (Builtin.SmallTypes.ownedTupleIsFree (.ref a)) Q E s := by
  have stay : ∀ b : Bool, wpAny (model prog w) A (pure b) Q E s := fun b => wpAny_pure (h b f s.heap hz (Heap.SameBut.refl _ _))
  unfold Builtin.SmallTypes.ownedTupleIsFree
  cases t with
  | none => exact rd hz (y := .none) (stay true)
  | some T =>
    refine rd hz (y := rawInt T) ?_
    show wpAny _ _ (loadIfAlive ((T : Int).toNat) >>= _) _ _ _
    rw [Int.toNat_natCast]
    refine wpAny_bind fun _ _ _ => ?_
    show wpAny (model prog w) A (if (s.heap.get? T).isNone = true then _ else _) Q E s
    by_cases gone : (s.heap.get? T).isNone = true
    · rw [if_pos gone]
      exact stay true
    · rw [if_neg gone]
      refine rd hz (y := .bool f) ?_
      cases f
      · exact wr hz (by simp) fun G g same => wpAny_pure (h false true G g same)
      · exact stay false
theorem zip_free {z TI TO : Addr} {t : Option Addr} {f : Bool} {Q : Bool → Shared → Prop} (hz : IsZ s.heap z TI TO t f)
    (h : ∀ (b f' : Bool) (h' : Heap), IsZ h' z TI TO t f' → Heap.SameBut z s.heap h' → Q b { s with heap := h' }) : wpAny (model prog w) A (Builtin.SmallTypes.ownedTupleIsFree (.ref z)) Q E s :=
  owned_free (l := [.bool false, .ref TI, .ref TO]) hz h
theorem enum_free {e it : Addr} {t : Option Addr} {f : Bool} {c : Int} {old : Value} {Q : Bool → Shared → Prop} (hz : IsEn s.heap e it t f c old)
    (h : ∀ (b f' : Bool) (h' : Heap), IsEn h' e it t f' c old → Heap.SameBut e s.heap h' → Q b { s with heap := h' }) : wpAny (model prog w) A (Builtin.SmallTypes.ownedTupleIsFree (.ref e)) Q E s :=
  owned_free (l := [.ref it, rawInt c, .none, old]) hz h
end

theorem outV_go {h : Heap} {a : Option Addr} {u : Nat} : (some (outV a) == some (rawInt u)) = true ∨ (some (outV a) == some (rawInt u)) = false := by
  cases (some (outV a) == some (rawInt u)) <;> simp
/-- a zip's step is told on the builtin itself; next and the drawing of a walk follow -/
theorem zip_nextOf {P : Program} {w : World} {A : Around} {E : Value → Shared → Prop} {s : Shared} {z TI TO : Addr} {t : Option Addr} {f : Bool} {Q : Value → Shared → Prop} (hz : IsZ s.heap z TI TO t f)
    (h : ∀ A' : Around, A'.handled = A.handled → wpAny (model P w) A' (Builtin.«zip.__next__» ⟨[.ref z], []⟩) (fun fin s' => ∃ v, fin = .done (.ret v) ∧ Q v s') E s) : wpAny (model P w) A (Builtin.SmallTypes.nextOf (.ref z)) Q E s := by
  have hT : s.TypeIs (.ref z) "zip" := ⟨_, hz, rfl⟩
  unfold Builtin.SmallTypes.nextOf
  refine wpAny_bind (wpAny_callSpecial?_slot (name := Str.ofString "__next__") hT F.slot_zip_next (wpAny_call_entry F.slot_zip_next hT F.entry_zip_next (wpAny_mono (h A.in1 rfl) (fun fin s' q => ?_) fun _ _ q => q) (F.args_zip_next_1 _)))
  obtain ⟨v, e, q⟩ := q
  exact ⟨v, e, wpAny_pure q⟩
theorem zip_pyNext {P : Program} {w : World} {A : Around} {E : Value → Shared → Prop} {s : Shared} {z TI TO : Addr} {t : Option Addr} {f : Bool} {Q : Option Value → Shared → Prop} (hz : IsZ s.heap z TI TO t f)
    (h : ∀ A' : Around, A'.handled = A.handled → wpAny (model P w) A' (Builtin.«zip.__next__» ⟨[.ref z], []⟩) (fun fin s' => ∃ v, fin = .done (.ret v) ∧ Q (some v) s') (fun e s' => ∃ a, e = .ref a ∧ (∃ o, s'.heap.get? a = some o ∧ o.cls = .type "StopIteration") ∧ Q none s') s) : wpAny (model P w) A (pyNext (.ref z)) Q E s := by
  have hT : s.TypeIs (.ref z) "zip" := ⟨_, hz, rfl⟩
  unfold pyNext
  refine wpAny_bind (wpAny_attempt (wpAny_callSpecial?_slot (name := Str.ofString "__next__") hT F.slot_zip_next (wpAny_call_entry F.slot_zip_next hT F.entry_zip_next (wpAny_mono (h A.in1 rfl) (fun fin s' q => ?_) fun e s' q => ?_) (F.args_zip_next_1 _))))
  · obtain ⟨v, e, q⟩ := q
    exact ⟨v, e, wpAny_pure q⟩
  · obtain ⟨a, rfl, ⟨o, ho, hc⟩, q⟩ := q
    exact wpAny_bind (wpAny_isInstance (T := "StopIteration") (b := true) ⟨o, ho, hc⟩ isSubtype_stop (wpAny_pure q))
theorem enum_pyNext {P : Program} {w : World} {A : Around} {E : Value → Shared → Prop} {s : Shared} {e it : Addr} {t : Option Addr} {f : Bool} {c : Int} {old : Value} {Q : Option Value → Shared → Prop} (hz : IsEn s.heap e it t f c old)
    (h : ∀ A' : Around, A'.handled = A.handled → wpAny (model P w) A' (Builtin.«enumerate.__next__» ⟨[.ref e], []⟩) (fun fin s' => ∃ v, fin = .done (.ret v) ∧ Q (some v) s') (fun e s' => ∃ a, e = .ref a ∧ (∃ o, s'.heap.get? a = some o ∧ o.cls = .type "StopIteration") ∧ Q none s') s) : wpAny (model P w) A (pyNext (.ref e)) Q E s := by
  have hT : s.TypeIs (.ref e) "enumerate" := ⟨_, hz, rfl⟩
  unfold pyNext
  refine wpAny_bind (wpAny_attempt (wpAny_callSpecial?_slot (name := Str.ofString "__next__") hT F.slot_enumerate_next (wpAny_call_entry F.slot_enumerate_next hT F.entry_enumerate_next (wpAny_mono (h A.in1 rfl) (fun fin s' q => ?_) fun e s' q => ?_) (F.args_enumerate_next_1 _))))
  · obtain ⟨v, e, q⟩ := q
    exact ⟨v, e, wpAny_pure q⟩
  · obtain ⟨a, rfl, ⟨o, ho, hc⟩, q⟩ := q
    exact wpAny_bind (wpAny_isInstance (T := "StopIteration") (b := true) ⟨o, ho, hc⟩ isSubtype_stop (wpAny_pure q))
/-- the two iterators drawn from, the zip's own records: all apart -/
structure Apart2 (z TI TO i1 i2 : Addr) (fp1 fp2 : List Addr) : Prop where
  tz : TI ≠ z
  oz : TO ≠ z
  to : TI ≠ TO
  z1 : z ∉ fp1
  z2 : z ∉ fp2
  t1 : TI ∉ fp1
  t2 : TI ∉ fp2
  o1 : TO ∉ fp1
  o2 : TO ∉ fp2
  d : ∀ b ∈ fp1, b ∉ fp2
abbrev Flat (J : It) : Prop := ∀ i H v H', J.yld i H v H' → H' = H
def ItZ2 (J1 J2 : It) : It :=
  ⟨fun i H => J1.go i H ∧ J2.go i H, fun i H v H' => ∃ T x y H2, J1.yld i H x H ∧ J2.yld i H y H2 ∧ H2 T = none ∧ v = .ref T ∧ H' = upd H2 T (.tup [x, y]), fun i H => J1.stop i H ∨ (J1.go i H ∧ J2.stop i H)⟩
abbrev Zst2 (z TI TO i1 i2 : Addr) (tn1 tn2 : Nat → Heap → Prop) (i : Nat) (h : Heap) : Prop :=
  (∃ t f, IsZ h z TI TO t f) ∧ IsPair h TI (.ref i1) (.ref i2) ∧ (∃ a b, IsPair h TO a b) ∧ tn1 i h ∧ tn2 i h
section
variable {P : Program} {w : World} {K : PySem.W.Frag} {J1 J2 : It} {fp1 fp2 : List Addr} {z TI TO i1 i2 : Addr} {tn1 tn2 : Nat → Heap → Prop}
theorem zip2_step (D1 : Drw P w K J1 fp1 i1 tn1) (D2 : Drw P w K J2 fp2 i2 tn2) (fl : Flat J1) (S : Apart2 z TI TO i1 i2 fp1 fp2) {X : Cx} (hP : X.prog = P) (hw : X.w = w) (hK : X.K = K) {A : Around} {i : Nat} {pins : List (Addr × Obj)} {s : Shared} {σ : L2.St} {H : Hp} {Q : Value → Shared → Prop} {E : Value → Shared → Prop}
    (I : Inv X pins σ H s) (hf : ∀ b ∈ z :: TI :: TO :: (fp1 ++ fp2), FpOk X pins H b) (st : Zst2 z TI TO i1 i2 tn1 tn2 i s.heap) (g1 : J1.go i H) (g2 : J2.go i H)
    (hQ : ∀ (T : Addr) (v : V) (s' : Shared) (H' : Hp), v = .ref T → Inv X pins σ H' s' → (ItZ2 J1 J2).yld i H v H' → Zst2 z TI TO i1 i2 tn1 tn2 (i + 1) s'.heap → s.heap.objs.size ≤ s'.heap.objs.size → (∀ b, b < s.heap.objs.size → H b = none → H' b = none) → (∀ b o, b ∉ z :: TI :: TO :: (fp1 ++ fp2) → s.heap.get? b = some o → s'.heap.get? b = some o) → Q (.ref T) s') :
    wpAny (model P w) A (Builtin.«zip.__next__» ⟨[.ref z], []⟩) (fun fin s' => ∃ v, fin = .done (.ret v) ∧ Q v s') E s := by
  obtain ⟨⟨t, f, hz⟩, hTI, ⟨a, b, hTO⟩, st1, st2⟩ := st
  have fz : FpOk X pins H z := hf z (by simp)
  have fO : FpOk X pins H TO := hf TO (by simp)
  have f1 : ∀ b ∈ fp1, FpOk X pins H b := fun b hb => hf b (by simp [hb])
  have f2 : ∀ b ∈ fp2, FpOk X pins H b := fun b hb => hf b (by simp [hb])
  have lz : z < s.heap.objs.size := Heap.lt_size hz
  have lO : TO < s.heap.objs.size := Heap.lt_size hTO
  show wpAny _ _ (field (.ref z) 2 >>= _) _ _ _
  refine rd hz (y := .bool false) ?_
  show wpAny _ _ (field (.ref z) 3 >>= _) _ _ _
  refine rd hz (y := .ref TI) ?_
  refine wpAny_bind (wpAny_seqItems hTI rfl ?_)
  refine wpAny_bind (zip_free hz fun fr f' h₁ hz₁ hs₁ => ?_)
  have I1 : Inv X pins σ H { s with heap := h₁ } := I.turnedL (t' := s.toks) (ch := [z]) (fun c o hc q => hs₁.extBut c o (by simpa using hc) q) (fun c hc => by rw [List.mem_singleton.mp hc]; exact fz)
  have hTO₁ : IsPair h₁ TO a b := hs₁.extBut _ _ S.oz hTO
  have hTI₁ : IsPair h₁ TI (.ref i1) (.ref i2) := hs₁.extBut _ _ S.tz hTI
  have st1₁ : tn1 i h₁ := D1.keep i _ _ st1 fun c hc o q => hs₁.extBut c o (fun e => S.z1 (e ▸ hc)) q
  have st2₁ : tn2 i h₁ := D2.keep i _ _ st2 fun c hc o q => hs₁.extBut c o (fun e => S.z2 (e ▸ hc)) q
  have sz₁ : h₁.objs.size = s.heap.objs.size := hs₁.1
  cases fr with
  | false =>
    simp only [Bool.false_eq_true, if_false]
    refine wpAny_bind ?_
    rw [← Array.forIn_toList]
    simp only [List.forIn_cons, List.forIn_nil]
    refine wpAny_bind (wpAny_bind (wpAny_holding ?_))
    refine wpAny_bind (D1.item X hP hw hK _ i pins _ σ H _ _ I1 f1 st1₁ g1 fun u1 v1 s2 H1 I2 r1 y1 n1 z1 fr1 k1 => wpAny_pure ?_)
    have e1 := fl i H v1 H1 y1
    subst e1
    refine wpAny_pure ?_
    refine wpAny_bind (wpAny_bind (wpAny_holding ?_))
    have st2₂ : tn2 i s2.heap := D2.keep i _ _ st2₁ fun c hc o q => k1 c o (fun e => S.d c e hc) q
    refine wpAny_bind (D2.item X hP hw hK _ i pins s2 σ H1 _ _ I2 f2 st2₂ g2 fun u2 v2 s3 H2 I3 r2 y2 n2 z2 fr2 k2 => wpAny_pure ?_)
    refine wpAny_pure (wpAny_pure ?_)
    have up : ∀ c o, c ∉ fp1 → c ∉ fp2 → h₁.get? c = some o → s3.heap.get? c = some o := fun c o c1 c2 q => k2 c o c2 (k1 c o c1 q)
    show wpAny _ _ (newTuple [u1, u2] >>= _) _ _ _
    refine wpAny_bind (wpAny_newTuple ?_)
    refine wpAny_pure ⟨_, rfl, ?_⟩
    have hT : (s3.heap.push { cls := .type "tuple", data := .seq #[u1, u2] }).get? s3.heap.objs.size = some { cls := .type "tuple", data := .seq #[u1, u2] } := Heap.get?_push_size _ rfl
    have new : ObjOk X.prog X.w (upd H2 s3.heap.objs.size (.tup [v1, v2])) (s3.heap.push { cls := .type "tuple", data := .seq #[u1, u2] }) s3.heap.objs.size (.tup [v1, v2]) :=
      ⟨by show 2 ≤ sizeLine; decide, [u1, u2], .cons r1 (.cons r2 .nil), ⟨_, hT, rfl, _, rfl⟩⟩
    have I4 := I3.turnedNew (t' := s3.toks) (ch := []) (fun c o _ q => Heap.get?_push_of_some _ q) (fun _ h => nomatch h) (Nat.le_refl _) new
    have q1 : s.heap.objs.size ≤ s2.heap.objs.size := by rw [← sz₁]; exact z1
    have q2 : s.heap.objs.size ≤ s3.heap.objs.size := Nat.le_trans q1 z2
    refine hQ s3.heap.objs.size _ _ _ rfl I4 ⟨_, v1, v2, H2, y1, y2, I3.hok.fresh (Nat.le_refl _), rfl, rfl⟩ ⟨⟨t, f', ?_⟩, ?_, ⟨a, b, ?_⟩, ?_, ?_⟩ (by show _ ≤ (Heap.push _ _).objs.size; rw [Heap.size_push]; exact Nat.le_succ_of_le q2) (fun c hc hn => ?_) fun c o hc q => ?_
    · exact Heap.get?_push_of_some _ (up _ _ S.z1 S.z2 hz₁)
    · exact Heap.get?_push_of_some _ (up _ _ S.t1 S.t2 hTI₁)
    · exact Heap.get?_push_of_some _ (up _ _ S.o1 S.o2 hTO₁)
    · exact D1.keep _ _ _ n1 fun c hc o q => Heap.get?_push_of_some _ (k2 c o (S.d c hc) q)
    · exact D2.keep _ _ _ n2 fun c hc o q => Heap.get?_push_of_some _ q
    · rw [upd_ne (Nat.ne_of_lt (Nat.lt_of_lt_of_le hc q2))]
      exact fr2 c (Nat.lt_of_lt_of_le hc q1) hn
    · have hc : c ≠ z ∧ c ≠ TI ∧ c ≠ TO ∧ c ∉ fp1 ∧ c ∉ fp2 := by simpa using hc
      exact Heap.get?_push_of_some _ (up c o hc.2.2.2.1 hc.2.2.2.2 (hs₁.extBut c o hc.1 q))
  | true =>
    simp only [if_true]
    refine wpAny_bind (wpAny_rule ?_)
    refine rd hz₁ (y := .ref TO) ?_
    refine wr hz₁ (by simp) fun h₂ hz₂ hs₂ => ?_
    have I2 : Inv X pins σ H { s with heap := h₂ } := Inv.turnedL (s := { s with heap := h₁ }) (t' := s.toks) (ch := [z]) I1 (fun c o hc q => hs₂.extBut c o (by simpa using hc) q) (fun c hc => by rw [List.mem_singleton.mp hc]; exact fz)
    have sz₂ : h₂.objs.size = s.heap.objs.size := hs₂.1.trans sz₁
    refine wpAny_bind ?_
    simp only [List.forIn_cons, List.zipIdx_cons, List.forIn_nil, List.zipIdx_nil]
    refine wpAny_bind (wpAny_bind (wpAny_onRaise ?_))
    refine wpAny_bind (D1.item X hP hw hK _ i pins _ σ H _ _ I2 f1 (D1.keep i _ _ st1₁ fun c hc o q => hs₂.extBut c o (fun e => S.z1 (e ▸ hc)) q) g1 fun u1 v1 s2 H1 I3 r1 y1 n1 z1 fr1 k1 => wpAny_pure ?_)
    have e1 := fl i H v1 H1 y1
    subst e1
    have hTO₂ : IsPair s2.heap TO a b := k1 _ _ S.o1 (hs₂.extBut _ _ S.oz hTO₁)
    refine wpAny_bind (wpAny_seqItems hTO₂ rfl ?_)
    refine up2 hTO₂ fun h₃ hTO₃ hs₃ => ?_
    replace hTO₃ : IsPair h₃ TO u1 b := hTO₃
    refine wpAny_bind (wpAny_letGo (wpAny_pure ?_))
    have I4 : Inv X pins σ H1 { s2 with heap := h₃ } := I3.turnedL (t' := s2.toks) (ch := [TO]) (fun c o hc q => hs₃.extBut c o (by simpa using hc) q) (fun c hc => by rw [List.mem_singleton.mp hc]; exact fO)
    have st2₃ : tn2 i h₃ := D2.keep i _ _ st2₁ fun c hc o q => hs₃.extBut c o (fun e => S.o2 (e ▸ hc)) (k1 c o (fun e => S.d c e hc) (hs₂.extBut c o (fun e => S.z2 (e ▸ hc)) q))
    refine wpAny_bind (wpAny_bind (wpAny_onRaise ?_))
    refine wpAny_bind (D2.item X hP hw hK _ i pins _ σ H1 _ _ I4 f2 st2₃ g2 fun u2 v2 s3 H2 I5 r2 y2 n2 z2 fr2 k2 => wpAny_pure ?_)
    have hTO₄ : IsPair s3.heap TO u1 b := k2 _ _ S.o2 hTO₃
    refine wpAny_bind (wpAny_seqItems hTO₄ rfl ?_)
    refine up2 hTO₄ fun h₅ hTO₅ hs₅ => ?_
    replace hTO₅ : IsPair h₅ TO u1 u2 := hTO₅
    refine wpAny_bind (wpAny_letGo ?_)
    refine wpAny_pure (wpAny_pure ?_)
    have I6 : Inv X pins σ H2 { s3 with heap := h₅ } := I5.turnedL (t' := s3.toks) (ch := [TO]) (fun c o hc q => hs₅.extBut c o (by simpa using hc) q) (fun c hc => by
      rw [List.mem_singleton.mp hc]
      exact FpOk.to fO (fr2 _ (by show TO < h₃.objs.size; rw [hs₃.1]; exact Nat.lt_of_lt_of_le (by rw [← sz₂] at lO; exact lO) z1) fO.1))
    refine wpAny_bind (wpAny_seqItems hTO₅ rfl ?_)
    show wpAny _ _ (newTuple [u1, u2] >>= _) _ _ _
    refine wpAny_bind (wpAny_newTuple ?_)
    have up : ∀ c o, c ≠ z → c ≠ TO → c ∉ fp1 → c ∉ fp2 → h₁.get? c = some o → h₅.get? c = some o := fun c o cz cO c1 c2 q => hs₅.extBut _ _ cO (k2 c o c2 (hs₃.extBut _ _ cO (k1 c o c1 (hs₂.extBut _ _ cz q))))
    have hz₅ : h₅.get? z = some { cls := .type "zip", dict := none, data := .fields #[.ellipsis, .bool f', .bool false, .ref TI, .ref TO], slots := #[] } :=
      hs₅.extBut _ _ S.oz.symm (k2 _ _ S.z2 (hs₃.extBut _ _ S.oz.symm (k1 _ _ S.z1 hz₂)))
    have q1 : s.heap.objs.size ≤ s2.heap.objs.size := by rw [← sz₂]; exact z1
    have q1' : s.heap.objs.size ≤ h₃.objs.size := by rw [hs₃.1]; exact q1
    have q2 : s.heap.objs.size ≤ h₅.objs.size := by rw [hs₅.1]; exact Nat.le_trans q1' z2
    have lz₅ : z < h₅.objs.size := Nat.lt_of_lt_of_le lz q2
    show wpAny _ _ (Builtin.SmallTypes.ownedTupleHandOut (.ref z) (.ref h₅.objs.size) >>= _) _ _ _
    refine wpAny_bind ?_
    unfold Builtin.SmallTypes.ownedTupleHandOut
    have hz₆ : (h₅.push { cls := .type "tuple", data := .seq #[u1, u2] }).get? z = some { cls := .type "zip", dict := none, data := .fields #[.ellipsis, .bool f', .bool false, .ref TI, .ref TO], slots := #[] } := Heap.get?_push_of_some _ hz₅
    refine wr hz₆ (by simp) fun h₇ hz₇ hs₇ => ?_
    refine wpAny_setField_rec hz₇ (by simp) fun h₈ (hz₈ : IsZ h₈ z TI TO (some h₅.objs.size) false) hs₈ => ?_
    have up8 : ∀ c o, c ≠ z → h₅.get? c = some o → h₈.get? c = some o := fun c o c1 e => hs₈.extBut _ _ c1 (hs₇.extBut _ _ c1 (Heap.get?_push_of_some _ e))
    have hT : h₈.get? h₅.objs.size = some { cls := .type "tuple", data := .seq #[u1, u2] } := hs₈.extBut _ _ (Nat.ne_of_gt lz₅) (hs₇.extBut _ _ (Nat.ne_of_gt lz₅) (Heap.get?_push_size _ rfl))
    refine wpAny_pure ⟨_, rfl, ?_⟩
    have new : ObjOk X.prog X.w (upd H2 h₅.objs.size (.tup [v1, v2])) h₈ h₅.objs.size (.tup [v1, v2]) :=
      ⟨by show 2 ≤ sizeLine; decide, [u1, u2], .cons r1 (.cons r2 .nil), ⟨_, hT, rfl, _, rfl⟩⟩
    have fz2 : FpOk X pins H2 z := FpOk.to fz (fr2 _ (Nat.lt_of_lt_of_le lz q1') fz.1)
    have I8 : Inv X pins σ _ { s3 with heap := h₈ } := I6.turnedNew (t' := s3.toks) (ch := [z]) (fun c o hc q => up8 c o (by simpa using hc) q) (fun c hc => by rw [List.mem_singleton.mp hc]; exact fz2) (Nat.le_refl _) new
    refine hQ h₅.objs.size _ _ _ rfl I8 ⟨_, v1, v2, H2, y1, y2, I6.hok.fresh (Nat.le_refl _), rfl, rfl⟩ ⟨⟨_, _, hz₈⟩, ?_, ⟨u1, u2, ?_⟩, ?_, ?_⟩ (by show _ ≤ h₈.objs.size; rw [hs₈.1, hs₇.1, Heap.size_push]; exact Nat.le_succ_of_le q2) (fun c hc hn => ?_) fun c o hc q => ?_
    · exact up8 _ _ S.tz (up _ _ S.tz S.to S.t1 S.t2 hTI₁)
    · exact up8 _ _ S.oz hTO₅
    · exact D1.keep _ _ _ n1 fun c hc o q => up8 c o (fun e => S.z1 (e ▸ hc)) (hs₅.extBut c o (fun e => S.o1 (e ▸ hc)) (k2 c o (S.d c hc) (hs₃.extBut c o (fun e => S.o1 (e ▸ hc)) q)))
    · exact D2.keep _ _ _ n2 fun c hc o q => up8 c o (fun e => S.z2 (e ▸ hc)) (hs₅.extBut c o (fun e => S.o2 (e ▸ hc)) q)
    · rw [upd_ne (Nat.ne_of_lt (Nat.lt_of_lt_of_le hc q2))]
      exact fr2 c (Nat.lt_of_lt_of_le hc q1') hn
    · have hc : c ≠ z ∧ c ≠ TI ∧ c ≠ TO ∧ c ∉ fp1 ∧ c ∉ fp2 := by simpa using hc
      exact up8 c o hc.1 (up c o hc.1 hc.2.2.1 hc.2.2.2.1 hc.2.2.2.2 (hs₁.extBut c o hc.1 q))
end
end Q

namespace Q
open PySem PySem.Spec PyProof.Rows L2
section
variable {P : Program} {w : World} {K : PySem.W.Frag} {J J1 J2 : It} {fp fp1 fp2 : List Addr} {z TI TO i1 i2 e it : Addr} {tn tn1 tn2 : Nat → Heap → Prop}
theorem zip2_stop (D1 : Drw P w K J1 fp1 i1 tn1) (D2 : Drw P w K J2 fp2 i2 tn2) (fl : Flat J1) (S : Apart2 z TI TO i1 i2 fp1 fp2) {X : Cx} (hP : X.prog = P) (hw : X.w = w) (hK : X.K = K) {A : Around} (hA : A.handled = none) {i : Nat} {pins : List (Addr × Obj)} {s : Shared} {σ : L2.St} {H : Hp} {Q : Fin → Shared → Prop} {E : Value → Shared → Prop}
    (I : Inv X pins σ H s) (hf : ∀ b ∈ z :: TI :: TO :: (fp1 ++ fp2), FpOk X pins H b) (st : Zst2 z TI TO i1 i2 tn1 tn2 i s.heap) (g : J1.stop i H ∨ (J1.go i H ∧ J2.stop i H))
    (hE : ∀ (e : Addr) (s' : Shared), Inv X pins σ H s' → (∃ o, s'.heap.get? e = some o ∧ o.cls = .type "StopIteration") → (∀ b o, b ∉ z :: TI :: TO :: (fp1 ++ fp2) → s.heap.get? b = some o → s'.heap.get? b = some o) → E (.ref e) s') :
    wpAny (model P w) A (Builtin.«zip.__next__» ⟨[.ref z], []⟩) Q E s := by
  obtain ⟨⟨t, f, hz⟩, hTI, ⟨a, b, hTO⟩, st1, st2⟩ := st
  have fz : FpOk X pins H z := hf z (by simp)
  have fO : FpOk X pins H TO := hf TO (by simp)
  have f1 : ∀ b ∈ fp1, FpOk X pins H b := fun b hb => hf b (by simp [hb])
  have f2 : ∀ b ∈ fp2, FpOk X pins H b := fun b hb => hf b (by simp [hb])
  show wpAny _ _ (field (.ref z) 2 >>= _) _ _ _
  refine rd hz (y := .bool false) ?_
  show wpAny _ _ (field (.ref z) 3 >>= _) _ _ _
  refine rd hz (y := .ref TI) ?_
  refine wpAny_bind (wpAny_seqItems hTI rfl ?_)
  refine wpAny_bind (zip_free hz fun fr f' h₁ hz₁ hs₁ => ?_)
  have I1 : Inv X pins σ H { s with heap := h₁ } := I.turnedL (t' := s.toks) (ch := [z]) (fun c o hc q => hs₁.extBut c o (by simpa using hc) q) (fun c hc => by rw [List.mem_singleton.mp hc]; exact fz)
  have hTO₁ : IsPair h₁ TO a b := hs₁.extBut _ _ S.oz hTO
  have st1₁ : tn1 i h₁ := D1.keep i _ _ st1 fun c hc o q => hs₁.extBut c o (fun e => S.z1 (e ▸ hc)) q
  have st2₁ : tn2 i h₁ := D2.keep i _ _ st2 fun c hc o q => hs₁.extBut c o (fun e => S.z2 (e ▸ hc)) q
  cases fr with
  | false =>
    simp only [Bool.false_eq_true, if_false]
    refine wpAny_bind ?_
    rw [← Array.forIn_toList]
    simp only [List.forIn_cons, List.forIn_nil]
    refine wpAny_bind (wpAny_bind (wpAny_holding ?_))
    rcases g with g | ⟨g1, g2⟩
    · refine wpAny_bind (D1.done X hP hw hK _ hA i pins _ σ H _ _ I1 f1 st1₁ g fun e s2 I2 he k1 => hE e s2 I2 he fun c o hc q => ?_)
      have hc : c ≠ z ∧ c ≠ TI ∧ c ≠ TO ∧ c ∉ fp1 ∧ c ∉ fp2 := by simpa using hc
      exact k1 c o hc.2.2.2.1 (hs₁.extBut c o hc.1 q)
    · refine wpAny_bind (D1.item X hP hw hK _ i pins _ σ H _ _ I1 f1 st1₁ g1 fun u1 v1 s2 H1 I2 r1 y1 n1 z1 fr1 k1 => wpAny_pure ?_)
      have e1 := fl i H v1 H1 y1
      subst e1
      refine wpAny_pure ?_
      refine wpAny_bind (wpAny_bind (wpAny_holding ?_))
      have st2₂ : tn2 i s2.heap := D2.keep i _ _ st2₁ fun c hc o q => k1 c o (fun e => S.d c e hc) q
      refine wpAny_bind (D2.done X hP hw hK _ hA i pins s2 σ H1 _ _ I2 f2 st2₂ g2 fun e s3 I3 he k2 => hE e s3 I3 he fun c o hc q => ?_)
      have hc : c ≠ z ∧ c ≠ TI ∧ c ≠ TO ∧ c ∉ fp1 ∧ c ∉ fp2 := by simpa using hc
      exact k2 c o hc.2.2.2.2 (k1 c o hc.2.2.2.1 (hs₁.extBut c o hc.1 q))
  | true =>
    simp only [if_true]
    refine wpAny_bind (wpAny_rule ?_)
    refine rd hz₁ (y := .ref TO) ?_
    refine wr hz₁ (by simp) fun h₂ hz₂ hs₂ => ?_
    have I2 : Inv X pins σ H { s with heap := h₂ } := Inv.turnedL (s := { s with heap := h₁ }) (t' := s.toks) (ch := [z]) I1 (fun c o hc q => hs₂.extBut c o (by simpa using hc) q) (fun c hc => by rw [List.mem_singleton.mp hc]; exact fz)
    refine wpAny_bind ?_
    simp only [List.forIn_cons, List.zipIdx_cons, List.forIn_nil, List.zipIdx_nil]
    refine wpAny_bind (wpAny_bind (wpAny_onRaise ?_))
    have st1₂ : tn1 i h₂ := D1.keep i _ _ st1₁ fun c hc o q => hs₂.extBut c o (fun e => S.z1 (e ▸ hc)) q
    rcases g with g | ⟨g1, g2⟩
    · refine wpAny_bind (D1.done X hP hw hK _ hA i pins _ σ H _ _ I2 f1 st1₂ g fun e s2 I3 he k1 => ?_)
      obtain ⟨oe, hoe, hce⟩ := he
      have hz₃ := k1 _ _ S.z1 hz₂
      have hez : e ≠ z := fun x => by subst x; rw [hz₃] at hoe; cases hoe; simp at hce
      refine wpAny_setField_rec hz₃ (by simp) fun h₃ _ hs₃ => hE e _ (I3.turnedL (t' := s2.toks) (ch := [z]) (fun c o hc q => hs₃.extBut c o (by simpa using hc) q) (fun c hc => by rw [List.mem_singleton.mp hc]; exact fz)) ⟨oe, hs₃.extBut _ _ hez hoe, hce⟩ fun c o hc q => ?_
      have hc : c ≠ z ∧ c ≠ TI ∧ c ≠ TO ∧ c ∉ fp1 ∧ c ∉ fp2 := by simpa using hc
      exact hs₃.extBut c o hc.1 (k1 c o hc.2.2.2.1 (hs₂.extBut c o hc.1 (hs₁.extBut c o hc.1 q)))
    · refine wpAny_bind (D1.item X hP hw hK _ i pins _ σ H _ _ I2 f1 st1₂ g1 fun u1 v1 s2 H1 I3 r1 y1 n1 z1 fr1 k1 => wpAny_pure ?_)
      have e1 := fl i H v1 H1 y1
      subst e1
      have hTO₂ : IsPair s2.heap TO a b := k1 _ _ S.o1 (hs₂.extBut _ _ S.oz hTO₁)
      refine wpAny_bind (wpAny_seqItems hTO₂ rfl ?_)
      refine up2 hTO₂ fun h₃ hTO₃ hs₃ => ?_
      refine wpAny_bind (wpAny_letGo (wpAny_pure ?_))
      have I4 : Inv X pins σ H1 { s2 with heap := h₃ } := I3.turnedL (t' := s2.toks) (ch := [TO]) (fun c o hc q => hs₃.extBut c o (by simpa using hc) q) (fun c hc => by rw [List.mem_singleton.mp hc]; exact fO)
      have st2₃ : tn2 i h₃ := D2.keep i _ _ st2₁ fun c hc o q => hs₃.extBut c o (fun e => S.o2 (e ▸ hc)) (k1 c o (fun e => S.d c e hc) (hs₂.extBut c o (fun e => S.z2 (e ▸ hc)) q))
      refine wpAny_bind (wpAny_bind (wpAny_onRaise ?_))
      refine wpAny_bind (D2.done X hP hw hK _ hA i pins _ σ H1 _ _ I4 f2 st2₃ g2 fun e s3 I5 he k2 => ?_)
      obtain ⟨oe, hoe, hce⟩ := he
      have hz₃ := k2 _ _ S.z2 (hs₃.extBut _ _ S.oz.symm (k1 _ _ S.z1 hz₂))
      have hez : e ≠ z := fun x => by subst x; rw [hz₃] at hoe; cases hoe; simp at hce
      refine wpAny_setField_rec hz₃ (by simp) fun h₅ _ hs₅ => hE e _ (I5.turnedL (t' := s3.toks) (ch := [z]) (fun c o hc q => hs₅.extBut c o (by simpa using hc) q) (fun c hc => by rw [List.mem_singleton.mp hc]; exact fz)) ⟨oe, hs₅.extBut _ _ hez hoe, hce⟩ fun c o hc q => ?_
      have hc : c ≠ z ∧ c ≠ TI ∧ c ≠ TO ∧ c ∉ fp1 ∧ c ∉ fp2 := by simpa using hc
      exact hs₅.extBut c o hc.1 (k2 c o hc.2.2.2.2 (hs₃.extBut c o hc.2.2.1 (k1 c o hc.2.2.2.1 (hs₂.extBut c o hc.1 (hs₁.extBut c o hc.1 q)))))
/-! ### enumerate -/
def ItEn (c : Int) (J : It) : It :=
  ⟨J.go, fun i H v H' => ∃ T x H2, J.yld i H x H2 ∧ H2 T = none ∧ v = .ref T ∧ H' = upd H2 T (.tup [.int (c + (i : Nat)), x]), J.stop⟩
abbrev Est (e it : Addr) (c : Int) (tn : Nat → Heap → Prop) (i : Nat) (h : Heap) : Prop := (∃ t f old, IsEn h e it t f (c + (i : Nat)) old) ∧ tn i h
theorem enum_step {c : Int} (D : Drw P w K J fp it tn) (ne : e ∉ fp) {X : Cx} (hP : X.prog = P) (hw : X.w = w) (hK : X.K = K) {A : Around} {i : Nat} {pins : List (Addr × Obj)} {s : Shared} {σ : L2.St} {H : Hp} {Q : Value → Shared → Prop} {E : Value → Shared → Prop}
    (I : Inv X pins σ H s) (hf : ∀ b ∈ e :: fp, FpOk X pins H b) (st : Est e it c tn i s.heap) (g : J.go i H)
    (hQ : ∀ (T : Addr) (v : V) (s' : Shared) (H' : Hp), v = .ref T → Inv X pins σ H' s' → (ItEn c J).yld i H v H' → Est e it c tn (i + 1) s'.heap → s.heap.objs.size ≤ s'.heap.objs.size → (∀ b, b < s.heap.objs.size → H b = none → H' b = none) → (∀ b o, b ∉ e :: fp → s.heap.get? b = some o → s'.heap.get? b = some o) → Q (.ref T) s') :
    wpAny (model P w) A (Builtin.«enumerate.__next__» ⟨[.ref e], []⟩) (fun fin s' => ∃ v, fin = .done (.ret v) ∧ Q v s') E s := by
  obtain ⟨⟨t, f, old, he⟩, hs⟩ := st
  have fe : FpOk X pins H e := hf e (by simp)
  have le : e < s.heap.objs.size := Heap.lt_size he
  show wpAny _ _ (field (.ref e) 2 >>= _) _ _ _
  refine rd he (y := .ref it) ?_
  refine wpAny_bind (D.item X hP hw hK _ i pins _ σ H _ _ I (fun b hb => hf b (by simp [hb])) hs g fun u v s1 H1 I1 r1 y1 n1 z1 fr1 k1 => ?_)
  obtain ⟨hp1, g1, d1, tk1, os1⟩ := s1
  have he₁ := k1 _ _ ne he
  show wpAny _ _ (field (.ref e) 3 >>= _) _ _ _
  refine rd he₁ (y := rawInt (c + (i : Nat))) ?_
  show wpAny _ _ (field (.ref e) 4 >>= _) _ _ _
  refine rd he₁ (y := .none) ?_
  show wpAny _ _ (mkInt (c + (i : Nat)) >>= _) _ _ _
  refine wpAny_bind (wpAny_mkInt ?_)
  show wpAny _ _ (setField (.ref e) 3 (rawInt (c + (i : Nat) + 1)) >>= _) _ _ ⟨hp1, g1, d1, tk1 + 1, os1⟩
  refine wr he₁ (by simp) fun h₂ he₂ hs₂ => ?_
  replace hs₂ : Heap.SameBut e hp1 h₂ := hs₂
  replace he₂ : IsEn h₂ e it t f (c + (i : Nat) + 1) old := he₂
  show wpAny _ _ (setField (.ref e) 4 .none >>= _) _ _ ⟨h₂, g1, d1, tk1 + 1, os1⟩
  refine wr he₂ (by simp) fun h₃ he₃ hs₃ => ?_
  replace hs₃ : Heap.SameBut e h₂ h₃ := hs₃
  replace he₃ : IsEn h₃ e it t f (c + (i : Nat) + 1) old := he₃
  show wpAny _ _ (newTuple [.int (c + (i : Nat)) tk1, u] >>= _) _ _ ⟨h₃, g1, d1, tk1 + 1, os1⟩
  refine wpAny_bind (wpAny_newTuple ?_)
  have sz₃ : h₃.objs.size = hp1.objs.size := by rw [hs₃.1, hs₂.1]
  have hT₄ : (h₃.push { cls := .type "tuple", data := .seq #[.int (c + (i : Nat)) tk1, u] }).get? h₃.objs.size = some { cls := .type "tuple", data := .seq #[.int (c + (i : Nat)) tk1, u] } := Heap.get?_push_size _ rfl
  have he₄ : IsEn (h₃.push { cls := .type "tuple", data := .seq #[.int (c + (i : Nat)) tk1, u] }) e it t f (c + (i : Nat) + 1) old := Heap.get?_push_of_some _ he₃
  have z1 : s.heap.objs.size ≤ hp1.objs.size := z1
  have le₃ : e < h₃.objs.size := by rw [sz₃]; exact Nat.lt_of_lt_of_le le z1
  have sz₄ : (h₃.push { cls := .type "tuple", data := .seq #[.int (c + (i : Nat)) tk1, u] }).objs.size = h₃.objs.size + 1 := Heap.size_push ..
  have up4 : ∀ b o, b ≠ e → hp1.get? b = some o → (h₃.push { cls := .type "tuple", data := .seq #[.int (c + (i : Nat)) tk1, u] }).get? b = some o := fun b o hb q => Heap.get?_push_of_some _ (hs₃.extBut b o hb (hs₂.extBut b o hb q))
  generalize hh : h₃.push { cls := .type "tuple", data := .seq #[.int (c + (i : Nat)) tk1, u] } = h₄ at he₄ hT₄ up4 sz₄
  have fin : ∀ (h₈ : Heap) (t8 : Option Addr) (f8 : Bool) (old8 : Value), IsEn h₈ e it t8 f8 (c + (i : Nat) + 1) old8 → h₈.objs.size = h₄.objs.size → (∀ b o, b ≠ e → h₄.get? b = some o → h₈.get? b = some o) → Q (.ref h₃.objs.size) ⟨h₈, g1, d1, tk1 + 1, os1⟩ := by
    intro h₈ t8 f8 old8 he8 sz8 up8
    have hT : h₈.get? h₃.objs.size = some { cls := .type "tuple", data := .seq #[.int (c + (i : Nat)) tk1, u] } := up8 _ _ (Nat.ne_of_gt le₃) hT₄
    have new : ObjOk X.prog X.w (upd H1 h₃.objs.size (.tup [.int (c + (i : Nat)), v])) h₈ h₃.objs.size (.tup [.int (c + (i : Nat)), v]) :=
      ⟨by show 2 ≤ sizeLine; decide, [.int (c + (i : Nat)) tk1, u], .cons ⟨_, rfl⟩ (.cons r1 .nil), ⟨_, hT, rfl, _, rfl⟩⟩
    have lt1 : hp1.objs.size ≤ h₃.objs.size := by rw [sz₃]; exact Nat.le_refl _
    have I8 := I1.turnedNew (t' := tk1 + 1) (h' := h₈) (ch := [e]) (fun b o hb q => up8 b o (by simpa using hb) (up4 b o (by simpa using hb) q)) (fun b hb => by rw [List.mem_singleton.mp hb]; exact FpOk.to fe (fr1 _ le fe.1)) lt1 new
    refine hQ h₃.objs.size _ _ _ rfl I8 ⟨_, v, H1, y1, I1.hok.fresh lt1, rfl, rfl⟩ ⟨⟨t8, f8, old8, ?_⟩, ?_⟩ ?_ (fun b hb hn => ?_) fun b o hb q => ?_
    · have e1 : c + ((i + 1 : Nat) : Int) = c + (i : Nat) + 1 := by omega
      rw [e1]
      exact he8
    · exact D.keep _ _ _ n1 fun b hb o q => up8 b o (fun z => ne (z ▸ hb)) (up4 b o (fun z => ne (z ▸ hb)) q)
    · show s.heap.objs.size ≤ h₈.objs.size
      rw [sz8, sz₄, sz₃]
      exact Nat.le_succ_of_le z1
    · rw [upd_ne (Nat.ne_of_lt (Nat.lt_of_lt_of_le hb (by rw [sz₃]; exact z1)))]
      exact fr1 b hb hn
    · have hb : b ≠ e ∧ b ∉ fp := by simpa using hb
      exact up8 b o hb.1 (up4 b o hb.1 (k1 b o hb.2 q))
  show wpAny _ _ (Builtin.SmallTypes.ownedTupleIsFree (.ref e) >>= _) _ _ ⟨h₄, g1, d1, tk1 + 1, os1⟩
  refine wpAny_bind (enum_free (s := ⟨h₄, g1, d1, tk1 + 1, os1⟩) he₄ fun fr f' h₅ he₅ hs₅ => ?_)
  replace hs₅ : Heap.SameBut e h₄ h₅ := hs₅
  cases fr with
  | false =>
    simp only [Bool.false_eq_true, if_false]
    exact wpAny_pure ⟨_, rfl, fin h₅ _ _ _ he₅ hs₅.1 fun b o hb q => hs₅.extBut b o hb q⟩
  | true =>
    simp only [if_true]
    refine wpAny_bind (wpAny_rule ?_)
    refine rd he₅ (y := old) ?_
    refine wr he₅ (by simp) fun h₆ he₆ hs₆ => ?_
    replace hs₆ : Heap.SameBut e h₅ h₆ := hs₆
    replace he₆ : IsEn h₆ e it t f' (c + (i : Nat) + 1) u := he₆
    show wpAny _ _ (Builtin.SmallTypes.ownedTupleHandOut (.ref e) (.ref h₃.objs.size) >>= _) _ _ ⟨h₆, g1, d1, tk1 + 1, os1⟩
    refine wpAny_bind ?_
    unfold Builtin.SmallTypes.ownedTupleHandOut
    refine wr he₆ (by simp) fun h₇ he₇ hs₇ => ?_
    replace hs₇ : Heap.SameBut e h₆ h₇ := hs₇
    replace he₇ : IsEn h₇ e it (some h₃.objs.size) f' (c + (i : Nat) + 1) u := he₇
    refine wpAny_setField_rec he₇ (by simp) fun h₈ he₈ hs₈ => ?_
    replace hs₈ : Heap.SameBut e h₇ h₈ := hs₈
    replace he₈ : IsEn h₈ e it (some h₃.objs.size) false (c + (i : Nat) + 1) u := he₈
    exact wpAny_bind (wpAny_letGo (wpAny_pure ⟨_, rfl, fin h₈ _ _ _ he₈ (by rw [hs₈.1, hs₇.1, hs₆.1, hs₅.1]) fun b o hb q => hs₈.extBut b o hb (hs₇.extBut b o hb (hs₆.extBut b o hb (hs₅.extBut b o hb q)))⟩))
theorem enum_stop {c : Int} (D : Drw P w K J fp it tn) {X : Cx} (hP : X.prog = P) (hw : X.w = w) (hK : X.K = K) {A : Around} (hA : A.handled = none) {i : Nat} {pins : List (Addr × Obj)} {s : Shared} {σ : L2.St} {H : Hp} {Q : Fin → Shared → Prop} {E : Value → Shared → Prop}
    (I : Inv X pins σ H s) (hf : ∀ b ∈ e :: fp, FpOk X pins H b) (st : Est e it c tn i s.heap) (g : J.stop i H)
    (hE : ∀ (e : Addr) (s' : Shared), Inv X pins σ H s' → (∃ o, s'.heap.get? e = some o ∧ o.cls = .type "StopIteration") → E (.ref e) s') :
    wpAny (model P w) A (Builtin.«enumerate.__next__» ⟨[.ref e], []⟩) Q E s := by
  obtain ⟨⟨t, f, old, he⟩, hs⟩ := st
  show wpAny _ _ (field (.ref e) 2 >>= _) _ _ _
  refine rd he (y := .ref it) ?_
  exact wpAny_bind (D.done X hP hw hK _ hA i pins _ σ H _ _ I (fun b hb => hf b (by simp [hb])) hs g fun x s' I' hx _ => hE x s' I' hx)
end
end Q

namespace Q
open PySem PySem.Spec PyProof.Rows L2
section
variable {prog : Program} {w : World} {A : Around} {E : Value → Shared → Prop} {s : Shared}
theorem go_zip {tg : Expr} {z TI TO u : Addr} {t : Option Addr} {f : Bool} {Q : Unit → Shared → Prop} (hz : IsZ s.heap z TI TO t f)
    (h : ∀ t' h', IsZ h' z TI TO t' f → Heap.SameBut z s.heap h' → Q () { s with heap := h' }) : wpAny (model prog w) A (letOwnedTupleGo tg (.ref z) (.ref u)) Q E s := by
  have main : wpAny (model prog w) A (do
      let o ← load z
      match o.cls, o.data with
      | .type n, .fields vs =>
        if ["enumerate", "zip", "dict_itemiterator", "dict_reverseitemiterator", "odict_iterator", "itertools.zip_longest", "itertools.pairwise"].contains n && vs[0]? == some (rawInt u) then
          rule "for.unpacks-the-owned-tuple"
          updateField z 0 .none
      | _, _ => pure ()) Q E s := by
    refine wpAny_bind (wpAny_load hz ?_)
    refine wpAny_ite ?_
    split
    · refine wpAny_bind (wpAny_rule ?_)
      show wpAny _ A (setField (.ref z) 0 .none) Q E s
      exact wpAny_setField_rec hz (by simp) fun h' q1 q2 => h none h' q1 q2
    · exact wpAny_pure (h t s.heap hz (Heap.SameBut.refl _ _))
  unfold letOwnedTupleGo
  cases tg <;> first
    | exact wpAny_pure (h t s.heap hz (Heap.SameBut.refl _ _))
    | exact main
theorem go_enum {tg : Expr} {e it u : Addr} {t : Option Addr} {f : Bool} {c : Int} {old : Value} {Q : Unit → Shared → Prop} (hz : IsEn s.heap e it t f c old)
    (h : ∀ t' h', IsEn h' e it t' f c old → Heap.SameBut e s.heap h' → Q () { s with heap := h' }) : wpAny (model prog w) A (letOwnedTupleGo tg (.ref e) (.ref u)) Q E s := by
  have main : wpAny (model prog w) A (do
      let o ← load e
      match o.cls, o.data with
      | .type n, .fields vs =>
        if ["enumerate", "zip", "dict_itemiterator", "dict_reverseitemiterator", "odict_iterator", "itertools.zip_longest", "itertools.pairwise"].contains n && vs[0]? == some (rawInt u) then
          rule "for.unpacks-the-owned-tuple"
          updateField e 0 .none
      | _, _ => pure ()) Q E s := by
    refine wpAny_bind (wpAny_load hz ?_)
    refine wpAny_ite ?_
    split
    · refine wpAny_bind (wpAny_rule ?_)
      show wpAny _ A (setField (.ref e) 0 .none) Q E s
      exact wpAny_setField_rec hz (by simp) fun h' q1 q2 => h none h' q1 q2
    · exact wpAny_pure (h t s.heap hz (Heap.SameBut.refl _ _))
  unfold letOwnedTupleGo
  cases tg <;> first
    | exact wpAny_pure (h t s.heap hz (Heap.SameBut.refl _ _))
    | exact main
theorem zip_iter {z TI TO : Addr} {t : Option Addr} {f : Bool} {Q : Value → Shared → Prop} (hz : IsZ s.heap z TI TO t f) (h : Q (.ref z) s) : wpAny (model prog w) A (pyIter (.ref z)) Q E s := by
  have hT : s.TypeIs (.ref z) "zip" := ⟨_, hz, rfl⟩
  refine wpAny_pyIter_slot hT F.slot_zip_iter (wpAny_call_entry F.slot_zip_iter hT F.entry_zip_iter ?_ (F.args_zip_iter_1 _))
  show wpAny _ _ (ret (.ref z)) _ _ s
  exact wpAny_pure ⟨_, rfl, "zip", _, hT, F.slot_zip_next.lookup, h⟩
theorem enum_iter {e it : Addr} {t : Option Addr} {f : Bool} {c : Int} {old : Value} {Q : Value → Shared → Prop} (hz : IsEn s.heap e it t f c old) (h : Q (.ref e) s) : wpAny (model prog w) A (pyIter (.ref e)) Q E s := by
  have hT : s.TypeIs (.ref e) "enumerate" := ⟨_, hz, rfl⟩
  refine wpAny_pyIter_slot hT F.slot_enumerate_iter (wpAny_call_entry F.slot_enumerate_iter hT F.entry_enumerate_iter ?_ (F.args_enumerate_iter_1 _))
  show wpAny _ _ (ret (.ref e)) _ _ s
  exact wpAny_pure ⟨_, rfl, "enumerate", _, hT, F.slot_enumerate_next.lookup, h⟩
end
section
variable {P : Program} {w : World} {K : PySem.W.Frag} {J J1 J2 : It} {fp fp1 fp2 : List Addr} {z TI TO i1 i2 e it : Addr} {tn tn1 tn2 : Nat → Heap → Prop}
theorem Zst2.keep {i : Nat} {h h' : Heap} (D1 : Drw P w K J1 fp1 i1 tn1) (D2 : Drw P w K J2 fp2 i2 tn2) (st : Zst2 z TI TO i1 i2 tn1 tn2 i h) (k : ∀ b ∈ z :: TI :: TO :: (fp1 ++ fp2), ∀ o, h.get? b = some o → h'.get? b = some o) : Zst2 z TI TO i1 i2 tn1 tn2 i h' := by
  obtain ⟨⟨t, f, hz⟩, hTI, ⟨a, b, hTO⟩, st1, st2⟩ := st
  exact ⟨⟨t, f, k _ (by simp) _ hz⟩, k _ (by simp) _ hTI, ⟨a, b, k _ (by simp) _ hTO⟩, D1.keep i _ _ st1 fun c hc o q => k c (by simp [hc]) o q, D2.keep i _ _ st2 fun c hc o q => k c (by simp [hc]) o q⟩
theorem Zst2.obj {i : Nat} {h : Heap} (D1 : Drw P w K J1 fp1 i1 tn1) (D2 : Drw P w K J2 fp2 i2 tn2) (st : Zst2 z TI TO i1 i2 tn1 tn2 i h) : ∀ b ∈ z :: TI :: TO :: (fp1 ++ fp2), ∃ o, h.get? b = some o ∧ ∀ v, o.data ≠ .cell v := by
  obtain ⟨⟨t, f, hz⟩, hTI, ⟨a, c, hTO⟩, st1, st2⟩ := st
  intro b hb
  have hb : b = z ∨ b = TI ∨ b = TO ∨ b ∈ fp1 ∨ b ∈ fp2 := by simpa using hb
  rcases hb with q | q | q | q | q
  · rw [q]; exact ⟨_, hz, fun v q => nomatch q⟩
  · rw [q]; exact ⟨_, hTI, fun v q => nomatch q⟩
  · rw [q]; exact ⟨_, hTO, fun v q => nomatch q⟩
  · exact D1.obj i h st1 b q
  · exact D2.obj i h st2 b q
theorem drw_zip2 (D1 : Drw P w K J1 fp1 i1 tn1) (D2 : Drw P w K J2 fp2 i2 tn2) (fl : Flat J1) (S : Apart2 z TI TO i1 i2 fp1 fp2) : Drw P w K (ItZ2 J1 J2) (z :: TI :: TO :: (fp1 ++ fp2)) z (Zst2 z TI TO i1 i2 tn1 tn2) where
  mem := by simp
  obj := fun i h st => Zst2.obj D1 D2 st
  keep := fun i h h' st k => Zst2.keep D1 D2 st k
  item := by
    intro X hP hw hK A i pins s σ H Q E I hf st hg hQ
    obtain ⟨t, f, hz⟩ := st.1
    exact zip_nextOf hz fun A' _ => zip2_step D1 D2 fl S hP hw hK I hf st hg.1 hg.2 fun T v s' H' ev I' y st' sz fr k => hQ _ v s' H' I' (by rw [ev]; rfl) y st' sz fr k
  done := by
    intro X hP hw hK A hA i pins s σ H Q E I hf st hg hE
    obtain ⟨t, f, hz⟩ := st.1
    exact zip_nextOf hz fun A' hA' => zip2_stop D1 D2 fl S hP hw hK (hA'.trans hA) I hf st hg hE
theorem turn_zip2 {tg : Expr} (D1 : Drw P w K J1 fp1 i1 tn1) (D2 : Drw P w K J2 fp2 i2 tn2) (fl : Flat J1) (S : Apart2 z TI TO i1 i2 fp1 fp2) : Turn P w K tg (ItZ2 J1 J2) (z :: TI :: TO :: (fp1 ++ fp2)) z (Zst2 z TI TO i1 i2 tn1 tn2) where
  mem := by simp
  obj := fun i h st => Zst2.obj D1 D2 st
  keep := fun i h h' st k => Zst2.keep D1 D2 st k
  item := by
    intro X hP hw hK hc i pins s σ H E I hf st hg
    obtain ⟨t, f, hz⟩ := st.1
    refine zip_pyNext hz fun A' _ => zip2_step D1 D2 fl S hP hw hK I hf st hg.1 hg.2 fun T v s' H' ev I' y st' sz fr k => ⟨_, rfl, ?_⟩
    have hlt : ∀ b ∈ z :: TI :: TO :: (fp1 ++ fp2), b < s.heap.objs.size := fun b hb => let ⟨_, q, _⟩ := Zst2.obj D1 D2 st b hb; Heap.lt_size q
    obtain ⟨⟨t', f', hz'⟩, hTI, ⟨a, b, hTO⟩, st1, st2⟩ := st'
    have fz : FpOk X pins H' z := FpOk.to (hf z (by simp)) (fr z (hlt z (by simp)) (hf z (by simp)).1)
    refine go_zip hz' fun t'' h'' hz'' sb => ⟨v, H', I'.turnedL (t' := s'.toks) (ch := [z]) (fun c o hc q => sb.extBut c o (by simpa using hc) q) (fun c hc => by rw [List.mem_singleton.mp hc]; exact fz), by rw [ev]; rfl, y, ⟨⟨t'', f', hz''⟩, sb.extBut _ _ S.tz hTI, ⟨a, b, sb.extBut _ _ S.oz hTO⟩, ?_, ?_⟩, fun b hb => fr b (hlt b hb) (hf b hb).1⟩
    · exact D1.keep _ _ _ st1 fun c hc o q => sb.extBut c o (fun e => S.z1 (e ▸ hc)) q
    · exact D2.keep _ _ _ st2 fun c hc o q => sb.extBut c o (fun e => S.z2 (e ▸ hc)) q
  done := by
    intro X hP hw hK hc i pins s σ H E I hf st hg
    subst hP hw hK
    obtain ⟨t, f, hz⟩ := st.1
    exact zip_pyNext hz fun A' hA' => zip2_stop D1 D2 fl S rfl rfl rfl (hA'.trans (I.ok.hd hc)) I hf st hg fun e s' I' he _ => ⟨e, rfl, he, rfl, I'⟩
  self := fun A i s Q E st h => let ⟨_, _, hz⟩ := st.1; zip_iter hz h
theorem turn_enu {tg : Expr} {c : Int} (D : Drw P w K J fp it tn) (ne : e ∉ fp) : Turn P w K tg (ItEn c J) (e :: fp) e (Est e it c tn) where
  mem := by simp
  obj := fun i h st b hb => by
    obtain ⟨⟨t, f, old, he⟩, hs⟩ := st
    rcases List.mem_cons.mp hb with q | q
    · rw [q]; exact ⟨_, he, fun v q => nomatch q⟩
    · exact D.obj i h hs b q
  keep := fun i h h' st k => by
    obtain ⟨⟨t, f, old, he⟩, hs⟩ := st
    exact ⟨⟨t, f, old, k _ (by simp) _ he⟩, D.keep i _ _ hs fun c hc o q => k c (by simp [hc]) o q⟩
  item := by
    intro X hP hw hK hc i pins s σ H E I hf st hg
    obtain ⟨t, f, old, hz⟩ := st.1
    refine enum_pyNext hz fun A' _ => enum_step D ne hP hw hK I hf st hg fun T v s' H' ev I' y st' sz fr k => ⟨_, rfl, ?_⟩
    have hlt : ∀ b ∈ e :: fp, b < s.heap.objs.size := fun b hb => by
      rcases List.mem_cons.mp hb with q | q
      · rw [q]; exact Heap.lt_size hz
      · obtain ⟨_, q, _⟩ := D.obj i _ st.2 b q; exact Heap.lt_size q
    obtain ⟨⟨t', f', old', hz'⟩, hs'⟩ := st'
    have fz : FpOk X pins H' e := FpOk.to (hf e (by simp)) (fr e (hlt e (by simp)) (hf e (by simp)).1)
    refine go_enum hz' fun t'' h'' hz'' sb => ⟨v, H', I'.turnedL (t' := s'.toks) (ch := [e]) (fun c o hc q => sb.extBut c o (by simpa using hc) q) (fun c hc => by rw [List.mem_singleton.mp hc]; exact fz), by rw [ev]; rfl, y, ⟨⟨t'', f', old', hz''⟩, ?_⟩, fun b hb => fr b (hlt b hb) (hf b hb).1⟩
    exact D.keep _ _ _ hs' fun c hc o q => sb.extBut c o (fun q => ne (q ▸ hc)) q
  done := by
    intro X hP hw hK hc i pins s σ H E I hf st hg
    subst hP hw hK
    obtain ⟨t, f, old, hz⟩ := st.1
    exact enum_pyNext hz fun A' hA' => enum_stop D rfl rfl rfl (hA'.trans (I.ok.hd hc)) I hf st hg fun x s' I' he => ⟨x, rfl, he, rfl, I'⟩
  self := fun A i s Q E st h => let ⟨_, _, _, hz⟩ := st.1; enum_iter hz h
/-! ### the items of such a walk -/
variable {r : List Addr} {H : Hp} {m m1 m2 : MI}
theorem WkR.zip2 (k1 : WkR K r H m1 J1) (k2 : WkR K r H m2 J2) (fl : Flat J1) : WkR K r H (.zip2 m1 m2) (ItZ2 J1 J2) := by
  intro r' H' S i s o
  obtain ⟨a1, a2⟩ := k1 r' H' S i s o
  obtain ⟨b1, b2⟩ := k2 r' H' S i s o
  unfold nextM
  cases q1 : nextM m1 i S with
  | none => exact ⟨fun z => (nomatch z), fun _ z => (nomatch z)⟩
  | some od =>
    cases od with
    | none => exact ⟨fun _ => .inl (a1 q1), fun _ z => (nomatch z)⟩
    | some d =>
      obtain ⟨g1, y1⟩ := a2 d q1
      cases q2 : nextM m2 i S with
      | none => exact ⟨fun z => (nomatch z), fun _ z => (nomatch z)⟩
      | some oe =>
        cases oe with
        | none => exact ⟨fun _ => .inr ⟨g1, b1 q2⟩, fun _ z => (nomatch z)⟩
        | some e =>
          obtain ⟨g2, y2⟩ := b2 e q2
          refine ⟨fun z => (nomatch z), fun f z => ⟨⟨g1, g2⟩, fun x H2 y => ?_⟩⟩
          cases z
          obtain ⟨T, x1, x2, H3, u1, u2, hT, rfl, rfl⟩ := y
          have e1 := fl _ _ _ _ u1
          obtain ⟨_, _, v1⟩ := y1 x1 H' u1
          obtain ⟨s3, o3, v2⟩ := y2 x2 H3 u2
          exact ⟨s3.trans (Stp.loose hT), o3.loose hT, T, [x1, x2], rfl, .of upd_same, x1, [x2], rfl, (v1.mono s3).mono (Stp.loose hT), x2, [], rfl, v2.mono (Stp.loose hT), rfl⟩
theorem WkR.enu {c : Int} (k : WkR K r H m J) : WkR K r H (.enu c m) (ItEn c J) := by
  intro r' H' S i s o
  obtain ⟨a1, a2⟩ := k r' H' S i s o
  unfold nextM
  cases q1 : nextM m i S with
  | none => exact ⟨fun z => (nomatch z), fun _ z => (nomatch z)⟩
  | some od =>
    cases od with
    | none => exact ⟨fun _ => a1 q1, fun _ z => (nomatch z)⟩
    | some d =>
      obtain ⟨g1, y1⟩ := a2 d q1
      refine ⟨fun z => (nomatch z), fun f z => ⟨g1, fun x H2 y => ?_⟩⟩
      cases z
      obtain ⟨T, x1, H3, u1, hT, rfl, rfl⟩ := y
      obtain ⟨s3, o3, v1⟩ := y1 x1 H3 u1
      exact ⟨s3.trans (Stp.loose hT), o3.loose hT, T, [.int (c + (i : Nat)), x1], rfl, .of upd_same, .int (c + (i : Nat)), [x1], rfl, rfl, x1, [], rfl, v1.mono (Stp.loose hT), rfl⟩
end
end Q

namespace Q
open PySem PySem.Spec PyProof.Rows L2
open PySem.Sem (wp)
/-! ### a zip, an enumerate begins -/
set_option maxHeartbeats 1000000 in
theorem meets_enum_self {v : Value} {Hc : Heap → Prop} (B : ∀ (prog : Program) (w : World) (A : Around) (E : Value → Shared → Prop) (s : Shared) (Q : Value → Shared → Prop), Hc s.heap → Q v s → wpAny (model prog w) A (pyIter v) Q E s) :
    Meets (Builtin.«enumerate.__new__» ⟨[.type "enumerate", v], []⟩) (fun _ R s => Hc s.heap ∧ R (.ok (.ret (.ref s.heap.objs.size))) { s with heap := s.heap.push { cls := .type "enumerate", data := .fields #[.none, .bool false, v, rawInt 0, .none, .none] } }) :=
  .of_wp fun prog w A R s h => by
    obtain ⟨hp, g, d, tk, os⟩ := s; obtain ⟨h1, h⟩ := h
    have hsub := sub_enumerate
    have q1 : ∀ {A' : Around} {E : Value → Shared → Prop} {Q : Value → Shared → Prop}, Q v ⟨hp, g, d, tk, os⟩ → wpAny (model prog w) A' (pyIter v) Q E ⟨hp, g, d, tk, os⟩ := fun q => B prog w _ _ ⟨hp, g, d, tk, os⟩ _ h1 q
    wp_walk using q1
    refine wpAny_stack_any fun st => wpAny_pure ?_
    split
    · rename_i c _ _ _ _ _
      cases (c == Value.type "enumerate")
      · wp_walk using q1
        exact ⟨_, rfl, h⟩
      · wp_walk using q1
        exact ⟨_, rfl, h⟩
    · wp_walk using q1
      exact ⟨_, rfl, h⟩
set_option maxHeartbeats 1000000 in
theorem meets_enum_obj {v : Value} {o : Obj} {Hc : Heap → Prop} (B : Begins v o Hc) :
    Meets (Builtin.«enumerate.__new__» ⟨[.type "enumerate", v], []⟩) (fun _ R s => Hc s.heap ∧ R (.ok (.ret (.ref (s.heap.push o).objs.size))) { s with heap := (s.heap.push o).push { cls := .type "enumerate", data := .fields #[.none, .bool false, .ref s.heap.objs.size, rawInt 0, .none, .none] } }) :=
  .of_wp fun prog w A R s h => by
    obtain ⟨hp, g, d, tk, os⟩ := s; obtain ⟨h1, h⟩ := h
    have hsub := sub_enumerate
    have q1 : ∀ {A' : Around} {E : Value → Shared → Prop} {Q : Value → Shared → Prop}, Q (.ref hp.objs.size) ⟨hp.push o, g, d, tk, os⟩ → wpAny (model prog w) A' (pyIter v) Q E ⟨hp, g, d, tk, os⟩ := fun q => B.iter prog w _ _ ⟨hp, g, d, tk, os⟩ _ h1 q
    wp_walk using q1
    refine wpAny_stack_any fun st => wpAny_pure ?_
    split
    · rename_i c _ _ _ _ _
      cases (c == Value.type "enumerate")
      · wp_walk using q1
        exact ⟨_, rfl, h⟩
      · wp_walk using q1
        exact ⟨_, rfl, h⟩
    · wp_walk using q1
      exact ⟨_, rfl, h⟩
section
variable {prog : Program} {w : World} {A : Around} {E : Value → Shared → Prop} {s : Shared}
theorem call_enum_self {v : Value} {it : Addr} {Hc : Heap → Prop} {Q : Value → Shared → Prop} (B : ∀ (prog : Program) (w : World) (A : Around) (E : Value → Shared → Prop) (s : Shared) (Q : Value → Shared → Prop), Hc s.heap → Q v s → wpAny (model prog w) A (pyIter v) Q E s) (ev : v = .ref it) (h1 : Hc s.heap)
    (h : ∀ h', IsEn h' s.heap.objs.size it none false 0 .none → (∀ b o, s.heap.get? b = some o → h'.get? b = some o) → Q (.ref s.heap.objs.size) { s with heap := h' }) : wpAny (model prog w) A (call (.type "enumerate") [v]) Q E s := by
  subst ev
  refine callType_new F.called_enumerate (by decide) (F.typeCall_enumerate_1 _) (F.newCall_enumerate_1 _) (fun obj => F.args_object_init_2 obj _) F.entry_enumerate_new (meets_enum_self B) ⟨h1, ?_⟩
  have g : IsEn (s.heap.push { cls := .type "enumerate", data := .fields #[.none, .bool false, .ref it, rawInt 0, .none, .none] }) s.heap.objs.size it none false 0 .none := Heap.get?_push_size _ rfl
  exact ⟨⟨_, g, rfl⟩, h _ g fun b o q => Heap.get?_push_of_some _ q⟩
theorem call_enum_obj {v : Value} {o : Obj} {Hc : Heap → Prop} {Q : Value → Shared → Prop} (B : Begins v o Hc) (h1 : Hc s.heap)
    (h : ∀ h', IsEn h' (s.heap.objs.size + 1) s.heap.objs.size none false 0 .none → h'.get? s.heap.objs.size = some o → (∀ b o, s.heap.get? b = some o → h'.get? b = some o) → Q (.ref (s.heap.objs.size + 1)) { s with heap := h' }) : wpAny (model prog w) A (call (.type "enumerate") [v]) Q E s := by
  refine callType_new F.called_enumerate (by decide) (F.typeCall_enumerate_1 _) (F.newCall_enumerate_1 _) (fun obj => F.args_object_init_2 obj _) F.entry_enumerate_new (meets_enum_obj B) ⟨h1, ?_⟩
  have hz : (s.heap.push o).objs.size = s.heap.objs.size + 1 := Heap.size_push ..
  have g : IsEn ((s.heap.push o).push { cls := .type "enumerate", data := .fields #[.none, .bool false, .ref s.heap.objs.size, rawInt 0, .none, .none] }) (s.heap.push o).objs.size s.heap.objs.size none false 0 .none := Heap.get?_push_size _ rfl
  show _ ∧ _
  rw [hz] at g ⊢
  exact ⟨⟨_, g, rfl⟩, h _ g (Heap.get?_push_of_some _ (Heap.get?_push_size _ B.free)) fun b o q => Heap.get?_push_of_some _ (Heap.get?_push_of_some _ q)⟩
end
/-- a list or a tuple that is going to be drawn from -/
structure Src (X : Cx) (r : List Addr) (H : Hp) (mi : MI) (u : Value) (h : Heap) : Prop where
  ex : ∃ (ob : Obj) (Hc : Heap → Prop) (J : It), Begins u ob Hc ∧ Hc h ∧ WkR X.K r H mi J ∧ Flat J ∧ ∀ it : Addr, ∃ tn, Drw X.prog X.w X.K J [it] it tn ∧ ∀ h' : Heap, h'.get? it = some ob → tn 0 h'
section
variable {X : Cx} {pins : List (Addr × Obj)} {σ : L2.St} {r : List Addr} {H : Hp} {s : Shared} {S : Store}
theorem src_of {d : D} {x : V} {u : Value} {mi : MI} (I : Inv X pins σ H s) (o : ROk X.K r H S) (k : VR X.K r H d x) (rv : RelV x u) (e : itD d S = some mi) : Src X r H mi u s.heap := by
  have lists : ∀ (a : Addr) (vs : List V), SqL X.K H a vs → u = .ref a → WkR X.K r H mi (Itl X.K a) → Src X r H mi u s.heap := fun a vs hs eu wk => by
    subst eu
    obtain ⟨its, rvv, p, hz⟩ := I.list hs
    exact ⟨_, _, Itl X.K a, begins_list a its.toArray, p.isList, wk, fun i H v H' y => y.1, fun it => ⟨_, drw_list a it, fun h' q => ⟨_, q, rfl, rfl⟩⟩⟩
  cases d with
  | tup xs =>
    cases e
    obtain ⟨p, vs, rfl, hs, hv⟩ := k
    cases rv
    obtain ⟨its, rvv, q, hz⟩ := I.tuple hs
    exact ⟨_, _, Itt X.K p, begins_tuple p its.toArray, q, wk_tup hs hv, fun i H v H' y => y.1, fun it => ⟨_, drw_tuple p it, fun h' q => ⟨_, q, rfl, rfl⟩⟩⟩
  | kl xs =>
    cases e
    obtain ⟨p, vs, rfl, hs, hv⟩ := k
    cases rv
    exact lists p vs hs.l rfl (wk_kl hs hv)
  | ref n =>
    obtain ⟨p, hp, rfl⟩ := k
    unfold itD at e
    dsimp only at e
    cases q : S[n]? with
    | none => rw [q] at e; cases e
    | some ob =>
      rw [q] at e
      have ho := o.ob n ob p q hp
      cases rv
      cases ob with
      | lst xs => cases e; obtain ⟨vs, h1, h2⟩ := ho; exact lists p vs (.of h1) rfl (wk_lst hp)
      | _ => cases e
  | _ => cases e
theorem fresh_ok {H1 : Hp} (I : Inv X pins σ H1 s) {fp : List Addr} (h : ∀ c ∈ fp, s.heap.objs.size ≤ c) : ∀ b ∈ fp, FpOk X pins H1 b := fun b hb => I.fpOk (h b hb) (I.hok.fresh (h b hb))
/-- zip(u1, u2) made: the new zip z -/
theorem make_zip2 {m1 m2 : MI} {u1 u2 : Value} {A : Around} {Q : Value → Shared → Prop} {E : Value → Shared → Prop} (I : Inv X pins σ H s) (s1 : Src X r H m1 u1 s.heap) (s2 : Src X r H m2 u2 s.heap)
    (h : ∀ (z : Addr) (fp : List Addr) (J : It) (tn : Nat → Heap → Prop) (h' : Heap), Drw X.prog X.w X.K J fp z tn → (∀ tg, Turn X.prog X.w X.K tg J fp z tn) → tn 0 h' → (∃ TI TO t f, IsZ h' z TI TO t f) → (∀ c ∈ fp, s.heap.objs.size ≤ c ∧ c < h'.objs.size) → WkR X.K r H (.zip2 m1 m2) J → (∀ b o, s.heap.get? b = some o → h'.get? b = some o) → s.heap.objs.size ≤ h'.objs.size → Q (.ref z) { s with heap := h' }) :
    wpAny (model X.prog X.w) A (call (.type "zip") [u1, u2]) Q E s := by
  obtain ⟨o1, H1, J1, B1, b1, w1, f1, d1⟩ := s1.ex
  obtain ⟨o2, H2, J2, B2, b2, w2, f2, d2⟩ := s2.ex
  refine zip_begins2 B1 B2 b1 b2 fun h' hz hTI hTO g1 g2 hsz hk => ?_
  obtain ⟨tn1, D1, t1⟩ := d1 s.heap.objs.size
  obtain ⟨tn2, D2, t2⟩ := d2 (s.heap.objs.size + 1)
  have S : Apart2 (s.heap.objs.size + 4) (s.heap.objs.size + 2) (s.heap.objs.size + 3) s.heap.objs.size (s.heap.objs.size + 1) [s.heap.objs.size] [s.heap.objs.size + 1] := by
    constructor <;> simp
  have hz : IsZ h' (s.heap.objs.size + 4) (s.heap.objs.size + 2) (s.heap.objs.size + 3) none false := hz
  refine h _ _ _ _ h' (drw_zip2 D1 D2 f1 S) (fun tg => turn_zip2 D1 D2 f1 S) ⟨⟨_, _, hz⟩, hTI, ⟨_, _, hTO⟩, t1 h' g1, t2 h' g2⟩ ⟨_, _, _, _, hz⟩ (fun c hc => ?_) (w1.zip2 w2 f1) hk (by omega)
  have hc : c = s.heap.objs.size + 4 ∨ c = s.heap.objs.size + 2 ∨ c = s.heap.objs.size + 3 ∨ c = s.heap.objs.size ∨ c = s.heap.objs.size + 1 := by simpa using hc
  rw [hsz]
  rcases hc with q | q | q | q | q <;> rw [q] <;> exact ⟨by first | exact Nat.le_refl _ | exact Nat.le_add_right _ _, by first | exact Nat.add_lt_add_left (by decide) _ | exact Nat.lt_add_of_pos_right (by decide)⟩
end
section
variable {X : Cx} {k : Nat} {a b : Expr} {tg : Expr} {m : MA} {ma : ME} {p pos p2 pos2 : Pos}
def zip2D (ds : List D) (S : Store) : Option MI := match ds with
  | [d, e] => (itD d S).bind fun x => (itD e S).map fun y => .zip2 x y
  | _ => none
def mIt (m : MA) (f : List D → Store → Option MI) : MIt := fun en S => (m en S).bind fun ds S1 => match f ds S1 with
  | some i => .ok i S1
  | none => .bad
def enuD (c : Int) (ds : List D) (S : Store) : Option MI := match ds with
  | [d] => (itD d S).map fun x => .enu c x
  | _ => none
/-- an expression that makes a zip -/
def SndZ (X : Cx) (e : Expr) (m : MIt) : Prop := ∀ (W : WX), Takes X W → ∀ (en : En) (σ : L2.St) (r : List Addr) (H : Hp) (S : Store) (R : It → Hp → Prop), ER X.K r H en σ → ROk X.K r H S → Dn X.K r H (WkR X.K) (m en S) R (WE W σ) →
  ∀ (pins : List (Addr × Obj)) (s : Shared), Inv X pins σ H s → wpAny (model X.prog X.w) X.A (eval e X.env) (fun v s1 => ∃ (z : Addr) (fp : List Addr) (J : It) (tn : Nat → Heap → Prop) (H1 : Hp), v = .ref z ∧ Inv X pins σ H1 s1 ∧ Drw X.prog X.w X.K J fp z tn ∧ (∀ tg, Turn X.prog X.w X.K tg J fp z tn) ∧ tn 0 s1.heap ∧
    (∃ TI TO t f, IsZ s1.heap z TI TO t f) ∧ (∀ b ∈ fp, FpOk X pins H1 b) ∧ (∀ c ∈ fp, c < s1.heap.objs.size) ∧ R J H1) X.xe s
theorem z_zip2 (hg : Gl X "zip") (hm : X.mg "zip" = none) (ha : SndA X [a, b] m)
    (hs : starEach [a, b] X.env = (false, eval a X.env) :: starEach [b] X.env := by rfl) (hpl : (backTo pos (starEach [b] X.env)).any (·.1) = false := by rfl) :
    SndZ X (.Call (.Name "zip" p) [a, b] [] pos) (mIt m zip2D) := by
  intro W tk en σ r H S R er ro dn pins s I
  have args := ha W tk en σ r H S _ er ro (Dn.bind dn) pos pins s I
  refine Call_ (ld_blt I hg hm PyProof.Rows.boot_zip (PyProof.Rows.callWith_type1 (thn args ?_) hs hpl))
  rintro us s1 ⟨vs, H1, I1, rv, ds, S1, r1, e1, st1, o1, k1, d1⟩
  match ds, k1, d1 with
  | [d, e], k1, d1 =>
    obtain ⟨v, w, rfl, k2, k3⟩ := k1.two_inv
    cases rv with
    | cons rr rv =>
      cases rv with
      | cons rr2 rv =>
        cases rv
        unfold zip2D at d1
        dsimp only at d1
        cases q1 : itD d S1 with
        | none => rw [q1] at d1; exact d1.elim
        | some x =>
          cases q2 : itD e S1 with
          | none => rw [q1, q2] at d1; exact d1.elim
          | some y =>
            rw [q1, q2] at d1
            refine make_zip2 I1 (src_of I1 o1 k2 rr q1) (src_of I1 o1 k3 rr2 q2) fun z fp J tn h' Dz Tz st hz hfp wk hk hsz => ?_
            have I2 : Inv X pins σ H1 { s1 with heap := h' } := I1.kept (t' := s1.toks) hk
            exact ⟨z, fp, J, tn, H1, rfl, I2, Dz, Tz, st, hz, fresh_ok I1 fun c hc => (hfp c hc).1, fun c hc => (hfp c hc).2, Dn.ok_here (R := WkR X.K) (a := .zip2 x y) d1 o1 wk⟩
  | [], _, d1 => exact d1.elim
  | [_], _, d1 => exact d1.elim
  | _ :: _ :: _ :: _, k1, d1 => exact d1.elim
theorem i_of_z {e : Expr} {mi : MIt} (h : SndZ X e mi) : SndI X tg e mi := by
  intro W tk en σ r H S R er ro dn pins s I
  refine thn (h W tk en σ r H S R er ro dn pins s I) fun v s1 ⟨z, fp, J, tn, H1, ev, I1, Dz, Tz, st, hz, hf, _, q⟩ => ?_
  subst ev
  obtain ⟨_, _, _, _, hz⟩ := hz
  exact zip_iter hz ⟨z, fp, tn, J, H1, rfl, I1, Tz tg, st, hf, q⟩
def mEnu (c : Int) (mi : MIt) : MIt := fun en S => (mi en S).bind fun i S1 => .ok (.enu c i) S1
/-- enumerate(zip(..)) -/
theorem i_enumz {e : Expr} {mi : MIt} (hg : Gl X "enumerate") (hm : X.mg "enumerate" = none) (h : SndZ X e mi) (hs : starEach [e] X.env = [(false, eval e X.env)] := by rfl) :
    SndI X tg (.Call (.Name "enumerate" p) [e] [] pos) (mEnu 0 mi) := by
  intro W tk en σ r H S R er ro dn pins s I
  refine Call_ (ld_blt I hg hm boot_enumerate (PyProof.Rows.callWith_type1 ?_ hs rfl))
  rw [hs]
  show wpAny _ _ (spliced ((false, eval e X.env) :: [])) _ _ s
  refine Calls.spliced_cons (thn (h W tk en σ r H S _ er ro (Dn.bind dn) pins s I) fun v s1 ⟨z, fp, J, tn, H1, ev, I1, Dz, Tz, st, hz, hf, hlt, i, S1, r1, e1, st1, o1, wk, d1⟩ => Calls.spliced_nil ?_)
  obtain ⟨TI, TO, t, f, hz⟩ := hz
  refine call_enum_self (Hc := fun h => IsZ h z TI TO t f) (it := z) (fun prog w A E s Q hz q => by rw [ev]; exact zip_iter hz (by rw [← ev]; exact q)) ev hz fun h' he hk => enum_iter he ?_
  have I2 : Inv X pins σ H1 { s1 with heap := h' } := I1.kept (t' := s1.toks) hk
  have ne : s1.heap.objs.size ∉ fp := fun hm => Nat.lt_irrefl _ (hlt _ hm)
  refine ⟨s1.heap.objs.size, s1.heap.objs.size :: fp, _, ItEn 0 J, H1, rfl, I2, turn_enu (c := 0) Dz ne, ⟨⟨_, _, _, he⟩, Dz.keep _ _ _ st fun b hb o q => hk b o q⟩, fun b hb => ?_, Dn.ok_here (R := WkR X.K) (a := .enu 0 i) d1 o1 wk.enu⟩
  rcases List.mem_cons.mp hb with q | q
  · rw [q]; exact I1.fpOk (Nat.le_refl _) (I1.hok.fresh (Nat.le_refl _))
  · exact hf b q
theorem i_enum (hg : Gl X "enumerate") (hm : X.mg "enumerate" = none) (ha : SndA X [a] m) (hs : starEach [a] X.env = [(false, eval a X.env)] := by rfl) :
    SndI X tg (.Call (.Name "enumerate" p) [a] [] pos) (mIt m (enuD 0)) := by
  intro W tk en σ r H S R er ro dn pins s I
  have args := ha W tk en σ r H S _ er ro (Dn.bind dn) pos pins s I
  refine Call_ (ld_blt I hg hm boot_enumerate (PyProof.Rows.callWith_type1 (thn args ?_) hs rfl))
  rintro us s1 ⟨vs, H1, I1, rv, ds, S1, r1, e1, st1, o1, k1, d1⟩
  match ds, k1, d1 with
  | [d], k1, d1 =>
    obtain ⟨v, rfl, k2⟩ := k1.one_inv
    cases rv with
    | cons rr rv =>
      cases rv
      unfold enuD at d1
      dsimp only at d1
      cases q1 : itD d S1 with
      | none => rw [q1] at d1; exact d1.elim
      | some x =>
        rw [q1] at d1
        obtain ⟨ob, Hc, J, B, b1, wk, fl, dr⟩ := (src_of I1 o1 k2 rr q1).ex
        refine call_enum_obj B b1 fun h' he hit hk => enum_iter he ?_
        obtain ⟨tn, Dr, t0⟩ := dr s1.heap.objs.size
        have I2 : Inv X pins σ H1 { s1 with heap := h' } := I1.kept (t' := s1.toks) hk
        refine ⟨s1.heap.objs.size + 1, [s1.heap.objs.size + 1, s1.heap.objs.size], _, ItEn 0 J, H1, rfl, I2, turn_enu (c := 0) Dr (by simp), ⟨⟨_, _, _, he⟩, t0 h' hit⟩, fresh_ok I1 fun c hc => ?_, Dn.ok_here (R := WkR X.K) (a := .enu 0 x) d1 o1 wk.enu⟩
        have hc : c = s1.heap.objs.size + 1 ∨ c = s1.heap.objs.size := by simpa using hc
        rcases hc with q | q <;> rw [q] <;> omega
  | [], _, d1 => exact d1.elim
  | _ :: _ :: _, k1, d1 => exact d1.elim
end
end Q

namespace Q
open PySem PySem.Spec PyProof.Rows L2
section
variable {X : Cx} {k : Nat} {a b o i value : Expr} {ma mb mo mv mi : ME} {pos pos' : Pos}
/-! ### o[i] of a list, a tuple, a text, a dict -/
def rDg : R2 := fun x y H Q => ∃ a v, x = .ref a ∧ DGet H a y (some v) ∧ Q v H
theorem ix_dict (hu : X.A.units + 1 < cLine) : IxR X rDg := by
  intro value slice pins s σ H x y v u Q I rx ry h hs
  obtain ⟨a, z, rfl, g, q⟩ := h
  cases rx
  have hT := dict_typeIs I g
  have get := d_getItem (A := X.A) (E := X.xe) (Q := EP X pins σ Q) hu I g ry fun w' s3 I3 rw' => ⟨z, H, I3, rw', q⟩
  unfold subscriptTail
  refine wpAny_bind ?_
  rw [getitemInPython_of_ne hT.not_modules]
  refine wpAny_bind (wpAny_specialOf hT PySem.F.slot_dict_getitem.lookup ?_)
  have last : wpAny (model X.prog X.w) X.A (subscripted slice false (.ref a) u) (fun r s₃ => wpAny (model X.prog X.w) X.A (letTemporaryGo value (.ref a) r >>= fun _ => pure r) (EP X pins σ Q) X.xe s₃) X.xe s := by
    rw [hs]
    exact wpAny_operating (wpAny_mono get (fun r s₃ h₃ => wpAny_bind (wpAny_letTemporaryGo (wpAny_pure h₃))) fun _ _ x => x)
  first
    | exact wpAny_pure (wpAny_bind last)
    | exact wpAny_bind (wpAny_pure (wpAny_bind last))
    | exact wpAny_bind last
def subD (d e : D) (S : Store) : Option D := match dctD d S with
  | some kvs => (keyD e).bind fun q => lookK kvs q
  | none => itemD d e S
def gSubs : G2 := fun d e S => (subD d e S).map fun z => (z, S)
theorem e_sub (g : Gd X k) (ha : SndE X a ma) (hb : SndE X b mb) (hs : PlainIx b := by intro _ _; rfl) : SndE X (.Subscript a b pos) (m2 gSubs ma mb) := by
  intro W tk en σ r H S Q er ro dn
  refine wE_of (pe_ix (ix_seq.or (ix_dict (by have := g.room.un; omega))) (pe_wE X a) (pe_wE X b) hs) (two ha hb (fun d e z x y r H S S' g1 k1 k2 o ed => ?_) tk er ro dn)
  obtain ⟨z', h1, h2⟩ := Option.map_eq_some_iff.mp g1
  cases h2
  unfold subD at h1
  cases q : dctD d S with
  | none => rw [q] at h1; exact .inl (itemD_ok o k1 k2 h1 fun v kv => ed.flat o kv)
  | some kvs =>
    rw [q] at h1
    obtain ⟨ky, h2, h3⟩ := Option.bind_eq_some_iff.mp h1
    obtain ⟨n, p, vs, rfl, _, rfl, hp, _, hv⟩ := dctD_ok o k1 q
    have hl := hv.look ky
    rw [h3] at hl
    obtain ⟨v, h4, h5⟩ := hl
    rw [keyD_ok h2 k2]
    exact .inr ⟨p, v, rfl, by rw [← h4]; exact DGet.k hp, ed.flat o h5⟩
/-! ### o[i] = v of a list, a dict -/
def storD (d e z : D) (S : Store) : Option Store := match d with
  | .ref n => match S[n]? with
    | some (.lst xs) => (intD e).bind fun i => (ixN xs.length i).map fun j => S.set n (.lst (xs.set j z))
    | some (.dct kvs) => (keyD e).bind fun q => if kvs.length < sizeLine then some (S.set n (.dct (putKD kvs q z))) else none
    | _ => none
  | _ => none
def mStoreP (o : Option Store) (en : En) : SRes := match o with
  | some S => .nx en S
  | none => .bad
def mStore (mo mi mv : ME) : MS := fun en S => (mv en S).stm en fun z S1 => (mo en S1).stm en fun d S2 => (mi en S2).stm en fun e S3 => mStoreP (storD d e z S3) en
theorem s_store (g : Gd X k) (ho : SndE X o mo) (hi : SndE X i mi) (hv : SndE X value mv) (hs : swapsWith value (some (.Subscript o i pos')) pos.line X.env = pure false := by rfl) :
    SndS X (.Assign [.Subscript o i pos'] value pos) (mStore mo mi mv) := by
  intro W tk en σ r H S D er ro dn pins s I
  refine wpAny_Assign_Subscript (thn (hv W tk en σ r H S _ er ro (DnS.stm (R := VR X.K) er dn) pins s I) fun rv s1 ⟨v, H1, I1, rr, z, S1, r1, e1, t1, o1, k1, er1, d1⟩ => thn (ho W tk en σ r1 H1 S1 _ er1 o1 (DnS.stm (R := VR X.K) er1 d1) pins s1 I1) fun ov s2 ⟨x, H2, I2, rx, d, S2, r2, e2, t2, o2, k2, er2, d2⟩ =>
    thn (hi W tk en σ r2 H2 S2 _ er2 o2 (DnS.stm (R := VR X.K) er2 d2) pins s2 I2) fun iv s3 ⟨y, H3, I3, ry, e, S3, r3, e3, t3, o3, k3, er3, d3⟩ => ?_) hs
  have k1 := (k1.mono t2).mono t3
  have k2 := k2.mono t3
  cases q : storD d e z S3 with
  | none => rw [q] at d3; exact d3.elim
  | some S4 =>
    rw [q] at d3
    cases d with
    | ref n =>
      obtain ⟨p, hp, rfl⟩ := k2
      cases rx
      unfold storD at q
      dsimp only at q
      cases q' : S3[n]? with
      | none => rw [q'] at q; cases q
      | some ob =>
        rw [q'] at q
        have oo := o3.ob n ob p q' hp
        cases ob with
        | lst xs =>
          obtain ⟨vs, h1, h2⟩ := oo
          obtain ⟨ii, h3, q⟩ := Option.bind_eq_some_iff.mp q
          obtain ⟨j, h4, q⟩ := Option.map_eq_some_iff.mp q
          cases q
          have ss : Stp r3 H3 r3 (upd H3 p (.lst (vs.set j v))) := Stp.mut h1 trivial
          refine thn (set_list pins s3 σ H3 (.ref p) y v (.ref p) iv rv (fun H' => D.nx σ H') I3 rfl ry rr ⟨p, vs, ii, j, rfl, intD_ok h3 k3, h1, by rw [← h2.length]; exact h4, ?_⟩) fun _ s4 h => ?_
          · exact d3 r3 _ σ ss (o3.mut hp h1 trivial ⟨_, upd_same, (h2.mono ss).set j (k1.mono ss)⟩) (er3.mono ss)
          · obtain ⟨H4, I4, q4⟩ := h
            exact ⟨σ, H4, I4, q4⟩
        | dct kvs =>
          obtain ⟨vs, h1, h2⟩ := oo
          obtain ⟨ky, h3, q⟩ := Option.bind_eq_some_iff.mp q
          split at q
          · rename_i hz
            cases q
            have ss : Stp r3 H3 r3 (upd H3 p (.dK (putK vs ky v))) := Stp.mut h1 trivial
            rw [keyD_ok h3 k3] at ry
            refine d_setItem (by have := g.room.un; omega) I3 (DPut.k h1 (by rw [← h2.length]; exact hz)) ry rr fun s4 I4 => ⟨σ, _, I4, ?_⟩
            exact d3 r3 _ σ ss (o3.mut hp h1 trivial ⟨_, upd_same, (h2.mono ss).put (k1.mono ss)⟩) (er3.mono ss)
          · cases q
        | _ => cases q
    | _ => cases q
/-! ### methods of built-ins -/
abbrev GM := D → List D → Store → Option (D × Store)
def MtD (X : Cx) (id : String) (g : GM) : Prop := ∀ (d : D) (ds : List D) (z : D) (x : V) (xs : List V) (r : List Addr) (H : Hp) (S S' : Store) (Q : VK), g d ds S = some (z, S') → VR X.K r H d x → VRs X.K r H ds xs → ROk X.K r H S → Ed X.K r H z S' Q →
  ∀ (pins : List (Addr × Obj)) (s : Shared) (σ : L2.St) (v : Value) (us : List Value), Inv X pins σ H s → RelV x v → Vals xs us → wpAny (model X.prog X.w) X.A (call (.builtin id) (v :: us)) (EP X pins σ Q) X.xe s
def wM (X : Cx) (id : String) : V → List V → Hp → VK → Prop := fun x xs H Q => ∀ (pins : List (Addr × Obj)) (s : Shared) (σ : L2.St) (v : Value) (us : List Value), Inv X pins σ H s → RelV x v → Vals xs us → wpAny (model X.prog X.w) X.A (call (.builtin id) (v :: us)) (EP X pins σ Q) X.xe s
theorem mt_wM (X : Cx) (id : String) : MtR X id (wM X id) := fun pins s σ _ _ _ v us _ I rx rs h => h pins s σ v us I rx rs
/-- the type's name, where methods are called on it -/
def tyD (d : D) (S : Store) : String := match d with
  | .str _ => "str"
  | .kl _ => "list"
  | .ref n => match S[n]? with
    | some (.lst _) => "list"
    | some (.dct _) => "dict"
    | _ => ""
  | _ => ""
theorem tyD_ok {r : List Addr} {H : Hp} {S : Store} {d : D} {x : V} {T : String} (ro : ROk X.K r H S) (h : VR X.K r H d x) (e : tyD d S = T) (hT : T ≠ "") : tyV X.K T x H := by
  cases d with
  | str y => have h : x = .str y := h; subst h; exact e.symm
  | kl xs => obtain ⟨p, vs, rfl, hs, hv⟩ := h; exact .inl ⟨e.symm, vs, hs.l⟩
  | ref n =>
    obtain ⟨p, hp, rfl⟩ := h
    unfold tyD at e
    dsimp only at e
    cases q : S[n]? with
    | none => rw [q] at e; exact absurd e.symm hT
    | some ob =>
      rw [q] at e
      have oo := ro.ob n ob p q hp
      cases ob with
      | lst xs => obtain ⟨vs, h1, h2⟩ := oo; exact .inl ⟨e.symm, vs, .of h1⟩
      | dct xs => obtain ⟨vs, h1, h2⟩ := oo; exact .inr (.inr (.inl ⟨e.symm, .inl ⟨vs, h1⟩⟩))
      | _ => exact absurd e.symm hT
  | _ => exact absurd e.symm hT
def mMeth (T : String) (g : GM) (mo : ME) (m : MA) : ME := fun en S => (mo en S).bind fun d S1 => if tyD d S1 = T then (m en S1).bind fun ds S2 => ofOpt (g d ds S2) else .bad
variable {e : Expr} {es : List Expr} {m : MA} {name : Str} {apos cpos : Pos} {T id : String} {gm : GM}
theorem e_meth (hm : MtD X id gm) (pa : PlainAttrs T) (slot : Slot T name id) (hty : typeOf (.builtin id) = pure (.type "method_descriptor")) (ho : SndE X o mo) (ha : SndA X (e :: es) m) (hT : T ≠ "" := by decide)
    (hbase : attributeBase o name X.env (eval o X.env) = eval o X.env := by rfl)
    (hfew : ((backTo cpos (starEach (e :: es) X.env)).all (fun x => !x.1) && (backToKw cpos (keywordEach [] X.env)).all (fun x => x.1.isSome)
      && decide ((e :: es).length + ([] : List Keyword).length + (if ([] : List Keyword).isEmpty then 0 else 1) < 30)) = true := by rfl)
    (hline : (apos.endLine == cpos.line) = true := by rfl) (hs : starEach (e :: es) X.env = (false, eval e X.env) :: starEach es X.env := by rfl) (hplain : (backTo cpos (starEach es X.env)).any (·.1) = false := by rfl) :
    SndE X (.Call (.Attribute o name apos) (e :: es) [] cpos) (mMeth T gm mo m) := by
  intro W tk en σ r H S Q er ro dn
  refine wE_of (pe_bm pa slot hty (mt_wM X id) (pe_wE X o) (pa_wA X _) hbase hfew hline hs hplain) ?_
  refine ho W tk en σ r H S _ er ro (Dn.imp (Dn.bind dn) fun x H1 ⟨d, S1, r1, e1, s1, o1, k1, d1⟩ => ?_)
  obtain ⟨ht, d1⟩ := dn_if d1
  refine ⟨tyD_ok o1 k1 ht hT, ha W tk en σ r1 H1 S1 _ (er.mono s1) o1 (Dn.imp (Dn.bind d1) fun xs H2 ⟨ds, S2, r2, e2, s2, o2, k2, d2⟩ => ?_)⟩
  obtain ⟨z, S', g1, ed⟩ := dn_ofOpt d2
  exact hm d ds z x xs r2 H2 S2 S' Q g1 (k1.mono s2) k2 o2 ed
theorem e_meth0 (hm : MtD X id gm) (pa : PlainAttrs T) (slot : Slot T name id) (hty : typeOf (.builtin id) = pure (.type "method_descriptor")) (ho : SndE X o mo) (hT : T ≠ "" := by decide)
    (hbase : attributeBase o name X.env (eval o X.env) = eval o X.env := by rfl) (hline : (apos.endLine == cpos.line) = true := by rfl) :
    SndE X (.Call (.Attribute o name apos) [] [] cpos) (mMeth T gm mo mNil) := by
  intro W tk en σ r H S Q er ro dn
  refine wE_of (pe_bm0 pa slot hty (mt_wM X id) (pe_wE X o) hbase hline) ?_
  refine ho W tk en σ r H S _ er ro (Dn.imp (Dn.bind dn) fun x H1 ⟨d, S1, r1, e1, s1, o1, k1, d1⟩ => ?_)
  obtain ⟨ht, d1⟩ := dn_if d1
  obtain ⟨z, S', g1, ed⟩ := dn_ofOpt (show Dn X.K r1 H1 (VR X.K) (ofOpt (gm d [] S1)) Q (WE W σ) from d1)
  exact ⟨tyD_ok o1 k1 ht hT, hm d [] z x [] r1 H1 S1 S' Q g1 k1 rfl o1 ed⟩
def gApp : GM := fun d ds S => match d, ds with
  | .ref n, [y] => match S[n]? with
    | some (.lst xs) => if xs.length < sizeLine then some (.non, S.set n (.lst (xs ++ [y]))) else none
    | _ => none
  | _, _ => none
theorem m_append : MtD X "list.append" gApp := by
  intro d ds z x xs r H S S' Q g1 k1 k2 o ed pins s σ v us I rx rs
  unfold gApp at g1
  split at g1
  · rename_i n y
    obtain ⟨p, hp, rfl⟩ := k1
    obtain ⟨w, rfl, kw⟩ := k2.one_inv
    split at g1
    · rename_i ys hq
      split at g1
      · rename_i hz
        cases g1
        obtain ⟨vs, h1, h2⟩ := o.ob n _ p hq hp
        have ss : Stp r H r (upd H p (.lst (vs ++ [w]))) := Stp.mut h1 trivial
        refine mt_append pins s σ H (.ref p) [w] v us Q I rx rs ⟨p, vs, w, rfl, rfl, h1, by rw [← h2.length]; exact hz, ?_⟩
        exact ed r _ _ ss (o.mut hp h1 trivial ⟨_, upd_same, (h2.mono ss).append (VRs.one (kw.mono ss))⟩) rfl
      · cases g1
    · cases g1
  · cases g1
/-! ### {k: v, ..} -/
def PRs (K : PySem.W.Frag) (r : List Addr) (H : Hp) : List (D × D) → List (V × V) → Prop
  | [], vs => vs = []
  | p :: ds, vs => ∃ v w ws, vs = (v, w) :: ws ∧ VR K r H p.1 v ∧ VR K r H p.2 w ∧ PRs K r H ds ws
def trsE (X : Cx) : List Expr → List Expr → List (TE × TE)
  | k :: ks, v :: vs => (wE X k, wE X v) :: trsE X ks vs
  | _, _ => []
abbrev MP := En → Store → Res (List (D × D))
def SndPs (X : Cx) (ks vs : List Expr) (m : MP) : Prop := ∀ (W : WX), Takes X W → ∀ (en : En) (σ : L2.St) (r : List Addr) (H : Hp) (S : Store) (Q : List (V × V) → Hp → Prop), ER X.K r H en σ → ROk X.K r H S → Dn X.K r H (PRs X.K) (m en S) Q (WE W σ) → tPairs (trsE X ks vs) σ H Q
def mPsN : MP := fun _ S => .ok [] S
def mPsC (mk mv : ME) (m : MP) : MP := fun en S => (mk en S).bind fun k S1 => (mv en S1).bind fun v S2 => (m en S2).bind fun ps S3 => .ok ((k, v) :: ps) S3
theorem ps_n : SndPs X [] [] mPsN := fun W tk en σ r H S Q er ro dn => Dn.ok_here (R := PRs X.K) (a := []) (v := []) dn ro rfl
theorem PRs.mono {K : PySem.W.Frag} {r r' : List Addr} {H H' : Hp} (s : Stp r H r' H') : ∀ {ds : List (D × D)} {vs : List (V × V)}, PRs K r H ds vs → PRs K r' H' ds vs
  | [], _, h => h
  | _ :: _, _, ⟨v, w, ws, h1, h2, h3, h4⟩ => ⟨v, w, ws, h1, h2.mono s, h3.mono s, PRs.mono s h4⟩
theorem ps_c {kk vv : Expr} {ks vs : List Expr} {mk mw : ME} {m : MP} (hk : SndE X kk mk) (hv : SndE X vv mw) (hr : SndPs X ks vs m) : SndPs X (kk :: ks) (vv :: vs) (mPsC mk mw m) := by
  intro W tk en σ r H S Q er ro dn
  refine hk W tk en σ r H S _ er ro (Dn.imp (Dn.bind dn) fun x H1 ⟨d, S1, r1, e1, s1, o1, k1, d1⟩ => ?_)
  refine hv W tk en σ r1 H1 S1 _ (er.mono s1) o1 (Dn.imp (Dn.bind d1) fun y H2 ⟨e, S2, r2, e2, s2, o2, k2, d2⟩ => ?_)
  refine hr W tk en σ r2 H2 S2 _ ((er.mono s1).mono s2) o2 (Dn.imp (Dn.bind d2) fun ps H3 ⟨ds, S3, r3, e3, s3, o3, k3, d3⟩ => ?_)
  exact Dn.ok_here (R := PRs X.K) d3 o3 ⟨x, y, ps, rfl, (k1.mono s2).mono s3, k2.mono s3, k3⟩
theorem pps_of : ∀ (ks vs : List Expr) (pos : Pos), ks.length = vs.length → PPs X pos (ks.map some) vs (trsE X ks vs)
  | [], [], pos, _ => pps_nil
  | k :: ks, v :: vs, pos, h => pps_cons (pe_wE X k) (pe_wE X v) (pps_of ks vs pos (by simpa using h))
def keysD : List (D × D) → Option (List (Key × D))
  | [] => some []
  | p :: r => (keyD p.1).bind fun k => (keysD r).map fun l => (k, p.2) :: l
def mergeD (kvs more : List (Key × D)) : List (Key × D) := more.foldl (fun acc kv => putKD acc kv.1 kv.2) kvs
theorem KR.merge {K : PySem.W.Frag} {r : List Addr} {H : Hp} : ∀ {more : List (Key × D)} {vm : List (Key × V)} {kvs : List (Key × D)} {vs : List (Key × V)}, KR K r H more vm → KR K r H kvs vs → KR K r H (mergeD kvs more) (mergeK vs vm)
  | [], vm, _, _, h, k => by have h : vm = [] := h; subst h; exact k
  | p :: ms, vm, _, _, h, k => by
    obtain ⟨v, ws, rfl, h1, h2⟩ := h
    show KR K r H (mergeD (putKD _ p.1 p.2) ms) (mergeK (putK _ p.1 v) ws)
    exact KR.merge h2 (KR.put k h1)
theorem keysD_ok {K : PySem.W.Frag} {r : List Addr} {H : Hp} : ∀ {ds : List (D × D)} {ps : List (V × V)} {kvs : List (Key × D)}, keysD ds = some kvs → PRs K r H ds ps → ∃ vk : List (Key × V), ps = vk.map (fun kv => (kV kv.1, kv.2)) ∧ KR K r H kvs vk ∧ vk.length = kvs.length
  | [], ps, _, e, h => by cases e; exact ⟨[], h, rfl, rfl⟩
  | p :: ds, ps, _, e, h => by
    obtain ⟨v, w, ws, rfl, h1, h2, h3⟩ := h
    obtain ⟨k, e1, e⟩ := Option.bind_eq_some_iff.mp e
    obtain ⟨l, e2, e⟩ := Option.map_eq_some_iff.mp e
    subst e
    obtain ⟨vk, rfl, q, ql⟩ := keysD_ok e2 h3
    exact ⟨(k, w) :: vk, by rw [keyD_ok e1 h1]; rfl, ⟨w, vk, rfl, h2, q⟩, by simp [ql]⟩
def mDispE (n : Nat) (ps : List (D × D)) (S : Store) : Option (D × Store) := match S[n]? with
  | some (.dct []) => (keysD ps).bind fun kvs => if kvs.length ≤ 15 then some (.ref n, S.set n (.dct (mergeD [] kvs))) else none
  | _ => none
def mDisp (m : MP) : ME := fun en S => (m en (S ++ [.dct []])).bind fun ps S1 => ofOpt (mDispE S.length ps S1)
theorem new_dct {r : List Addr} {H : Hp} {S : Store} {q : Addr} (o : ROk X.K r H S) (hq : H q = none) :
    Stp r H (r ++ [q]) (upd H q (.dK [])) ∧ ROk X.K (r ++ [q]) (upd H q (.dK [])) (S ++ [.dct []]) ∧ (r ++ [q])[S.length]? = some q :=
  ⟨Stp.new hq, o.new hq ⟨[], upd_same, rfl⟩, by rw [← o.len, List.getElem?_append_right (Nat.le_refl _), Nat.sub_self]; rfl⟩
theorem e_disp {ks vs : List Expr} {m : MP} (h : SndPs X ks vs m) (hl : ks.length = vs.length := by rfl) (h0 : ks ≠ [] := by simp) (h15 : ks.length ≤ 15 := by decide) (hall : (ks.map some).all (·.isSome) = true := by rfl) : SndE X (.Dict (ks.map some) vs pos) (mDisp m) := by
  intro W tk en σ r H S Q er ro dn
  refine wE_of (pe_disp (pps_of ks vs pos hl) hall (by rw [List.length_map]; exact hl) (by simpa using h0) (by rw [List.length_map]; exact h15)) ?_
  intro p hp
  obtain ⟨n1, n2, n3⟩ := new_dct ro hp
  refine h W tk en σ _ _ _ _ (er.mono n1) n2 (Dn.imp (Dn.bind (Dn.mono n1 dn)) fun ps H2 ⟨ds, S2, r2, e2, s2, o2, k2, d2⟩ => ?_)
  obtain ⟨z, S', g1, ed⟩ := dn_ofOpt d2
  have hp2 := s2.pre _ _ n3
  unfold mDispE at g1
  split at g1
  · rename_i hq
    obtain ⟨vs0, h1, h2⟩ := o2.ob _ _ p hq hp2
    have h2 : vs0 = [] := h2
    subst h2
    obtain ⟨kvs, h3, g1⟩ := Option.bind_eq_some_iff.mp g1
    split at g1
    · rename_i hz
      cases g1
      obtain ⟨vk, rfl, q, ql⟩ := keysD_ok h3 k2
      refine ⟨h1, vk, rfl, by rw [ql]; exact hz, ?_⟩
      have ss : Stp r2 H2 r2 (upd H2 p (.dK (mergeK [] vk))) := Stp.mut h1 trivial
      exact ed r2 _ _ ss (o2.mut hp2 h1 trivial ⟨_, upd_same, KR.merge (q.mono ss) rfl⟩) ⟨p, hp2, rfl⟩
    · cases g1
  · cases g1
/-- {} -/
def mDnew : ME := fun _ S => .ok (.ref S.length) (S ++ [.dct []])
theorem e_dnew : SndE X (.Dict [] [] pos) mDnew := by
  intro W tk en σ r H S Q er ro dn
  refine wE_of pe_dnewK fun p hp => ?_
  obtain ⟨n1, n2, n3⟩ := new_dct ro hp
  exact dn _ _ _ n1 n2 ⟨p, n3, rfl⟩
end
end Q

namespace Q
open PySem PySem.Spec PyProof.Rows L2
theorem Gd.blk {X : Cx} {k : Nat} (g : Gd X k) {s : Shared} {H : Hp} {scope : Scope} {cenv : Env} {fp : List Addr} : Gd (X.blk s H scope cenv fp) k := ⟨g.calm, g.room, g.gd⟩
theorem Gd.mono {X : Cx} {j k : Nat} (g : Gd X k) (h : j ≤ k) : Gd X j := ⟨g.calm, g.room.mono h, g.gd⟩
theorem Gd.eq {X : Cx} {k : Nat} (g : Gd X k) : X.A.units + 64 < cLine := by have := g.room.un; omega
/-- the rounds that a loop of the text may take -/
def bigN : Nat := 10000000
theorem walk_M {l : PySem.W.OpenLaw} {n k : Nat} {q : Program} {loose : List Str} {XP : (Str → Option Value) → Heap → Prop} {YP : World → Heap → Prop} {d : DefRec} {x : Str}
    (hn : l.most = some n) (hn2 : n ≤ sizeLine) (hdf : d.params.defaults = []) (hr : Room k callerA)
    (F : ∀ (w : World) (mg : Str → Option Value) (fa : Addr) (h : Heap), YP w h → h.Ns mainGlobals mg → mg d.name = some (.ref fa) →
      ∃ (K : PySem.W.Frag) (fd : FuncData) (M : MF), K.In h ∧ (∀ (s : Shared) (u : Value), BindsTo s fd ⟨[u], []⟩ [(x, u)]) ∧
        (∀ ns : List Int, ns.length ≤ n → (∀ z ∈ ns, Builtin.Int.intBits z ≤ 1048576) → ∃ S', M [.kl (ns.map D.int)] [] = .ok (.bl true) S') ∧
        ∀ base : Heap, K.In base → base.Ns mainGlobals mg → FnM l.prog w K mg base k fa fd [x] M) :
    PySem.W.WalkO q loose XP YP l.row.toRowW d [] (fun f vs => PySem.call f vs) := by
  refine Att.attach_callB hn hdf fun w s₀ s₁ mg mb fa o pm cd doc a vs ns G Y ho hd hcd hmg hobj hints hlen hbits hg => ?_
  obtain ⟨K, fd, M, KX, hb, hM, hF⟩ := F w mg fa _ Y G.T.g hmg
  exact law_M KX G.T.g G.T.b G.T.builtins G.T.nolimit hg hobj hints (Nat.le_trans hlen hn2) hr hF hb (hM ns hlen hbits)
/-- a def that stands in K -/
theorem funD_mk {K : PySem.W.Frag} {x qual : Str} {st : Stmt} {f : Addr} {oc : Value} {od an : Option Addr} {osl : Array (Option Value)} {dV kV doc pm cdv ct : Value} {dvs : List V} (l : K.lookup f = some ⟨oc, od, .func (PySem.W.fnOf x qual (defArgs st) (defBody st) (defScope st) dV kV doc pm an cdv ct), osl⟩)
    (c : PySem.W.codeIn K cdv qual = true) (kp : PySem.W.keepIn K (.ref f) = true) (hd : DflV K dV dvs) : FunD K x qual (defArgs st) (defBody st) (defScope st) dvs [] f (PySem.W.fnOf x qual (defArgs st) (defBody st) (defScope st) dV kV doc pm an cdv ct) :=
  ⟨⟨oc, od, dV, kV, doc, pm, an, cdv, ct, osl, rfl, l, c, hd, .inl rfl⟩, kp⟩
theorem dfl0 {K : PySem.W.Frag} : DflV K .none [] := .inl ⟨rfl, rfl⟩
theorem dfl1 {K : PySem.W.Frag} {T : Addr} {o : Obj} {its : List Value} {n : Nat} {dvs : List V} (h0 : dvs ≠ []) (l : K.lookup T = some o) (hd : o.data = .seq its.toArray n) (r : Vals dvs its) : DflV K (.ref T) dvs := .inr ⟨h0, T, o, its, n, rfl, l, hd, r⟩
end Q

namespace Q
open PySem PySem.Spec PyProof.Rows L2
section
variable {α β : Type} {a : α} {S : Store} {f : α → Store → Res β} {en : En}
@[simp] theorem bind_ok : (Res.ok a S).bind f = f a S := rfl
@[simp] theorem stm_ok {f : α → Store → SRes} : (Res.ok a S).stm en f = f a S := rfl
@[simp] theorem seq_nx {f : MS} : (SRes.nx en S).seq f = f en S := rfl
@[simp] theorem seq_rt {f : MS} {d : D} : (SRes.rt d S).seq f = .rt d S := rfl
@[simp] theorem ofOpt_some : ofOpt (some (a, S)) = .ok a S := rfl
@[simp] theorem endM_rt {d : D} : endM (.rt d S) = .ok d S := rfl
@[simp] theorem endM_nx : endM (.nx en S) = .ok .non S := rfl
@[simp] theorem mSeq_eq {a b : MS} : mSeq a b en S = (a en S).seq b := rfl
@[simp] theorem mSkip_eq : mSkip en S = .nx en S := rfl
@[simp] theorem mRet_eq {m : ME} : mRet m en S = (m en S).stm en fun d S1 => .rt d S1 := rfl
@[simp] theorem mExpr_eq {m : ME} : mExpr m en S = (m en S).stm en fun _ S1 => .nx en S1 := rfl
@[simp] theorem mSet_eq {i : Nat} {m : ME} : mSet i m en S = (m en S).stm en fun d S1 => .nx (en.set i (some d)) S1 := rfl
@[simp] theorem mC_eq {d : D} : mC d en S = .ok d S := rfl
@[simp] theorem m2_eq {g : G2} {x y : ME} : m2 g x y en S = (x en S).bind fun d S1 => (y en S1).bind fun e S2 => ofOpt (g d e S2) := rfl
@[simp] theorem m1_eq {g : G1} {x : ME} : m1 g x en S = (x en S).bind fun d S1 => ofOpt (g d S1) := rfl
@[simp] theorem mNil_eq : mNil en S = .ok [] S := rfl
@[simp] theorem mCons_eq {x : ME} {m : MA} : mCons x m en S = (x en S).bind fun d S1 => (m en S1).bind fun ds S2 => .ok (d :: ds) S2 := rfl
@[simp] theorem mCall_eq {g : GN} {m : MA} : mCall g m en S = (m en S).bind fun ds S1 => ofOpt (g ds S1) := rfl
@[simp] theorem g1N_eq {g : G1} {d : D} : g1N g [d] S = g d S := rfl
@[simp] theorem g2N_eq {g : G2} {d e : D} : g2N g [d, e] S = g d e S := rfl
@[simp] theorem mB_eq {m : ME} : mB m en S = (m en S).bind fun d S1 => asB (boolD d) S1 := rfl
@[simp] theorem boolD_bl {b : Bool} : boolD (.bl b) = some b := rfl
@[simp] theorem asB_some {b : Bool} : asB (some b) S = .ok b S := rfl
@[simp] theorem mNot_eq {m : MT} : mNot m en S = (m en S).bind fun b S1 => .ok (!b) S1 := rfl
@[simp] theorem mTr_eq {m : ME} : mTr m en S = (m en S).bind fun d S1 => asB (truD d S1) S1 := rfl
@[simp] theorem truD_bl {b : Bool} : truD (.bl b) S = some b := rfl
@[simp] theorem truD_int {i : Int} : truD (.int i) S = some (i != 0) := rfl
@[simp] theorem mStore_eq {mo mi mv : ME} : mStore mo mi mv en S = (mv en S).stm en fun z S1 => (mo en S1).stm en fun d S2 => (mi en S2).stm en fun e S3 => mStoreP (storD d e z S3) en := rfl
@[simp] theorem mStoreP_some : mStoreP (some S) en = .nx en S := rfl
theorem mIfS_t {mt : MT} {x y : MS} {S1 : Store} (h : mt en S = .ok true S1) : mIfS mt x y en S = x en S1 := by unfold mIfS; rw [h]; rfl
theorem mIfS_f {mt : MT} {x y : MS} {S1 : Store} (h : mt en S = .ok false S1) : mIfS mt x y en S = y en S1 := by unfold mIfS; rw [h]; rfl
theorem mAnd_t {x y : MT} {S1 : Store} (h : x en S = .ok true S1) : mAnd x y en S = y en S1 := by unfold mAnd; rw [h]; rfl
theorem mAnd_f {x y : MT} {S1 : Store} (h : x en S = .ok false S1) : mAnd x y en S = .ok false S1 := by unfold mAnd; rw [h]; rfl
theorem mOr_t {x y : MT} {S1 : Store} (h : x en S = .ok true S1) : mOr x y en S = .ok true S1 := by unfold mOr; rw [h]; rfl
theorem mOr_f {x y : MT} {S1 : Store} (h : x en S = .ok false S1) : mOr x y en S = y en S1 := by unfold mOr; rw [h]; rfl
theorem mVar_at {i : Nat} {d : D} (h : en[i]? = some (some d)) : mVar i en S = .ok d S := by unfold mVar; rw [h]
@[simp] theorem gI_int {c : Int → Int → Bool} {f : Int → Int → D} {i j : Int} : gI c f (.int i) (.int j) S = if c i j then some (f i j, S) else none := rfl
@[simp] theorem gAdd_int {i j : Int} : gAdd (.int i) (.int j) S = some (.int (i + j), S) := rfl
@[simp] theorem gSub_int {i j : Int} : gSub (.int i) (.int j) S = some (.int (i - j), S) := rfl
theorem gMul_int {i j : Int} (h : i.natAbs.log2 + j.natAbs.log2 < 1000000) : gMul (.int i) (.int j) S = some (.int (i * j), S) := by unfold gMul; dsimp only; rw [if_pos h]
theorem gMod_int {i j : Int} (h : 0 < j) : gMod (.int i) (.int j) S = some (.int (i % j), S) := by unfold gMod; rw [gI_int, if_pos (by simpa using h)]
theorem gDiv_int {i j : Int} (h : 0 < j) (h2 : j.natAbs.log2 < 9000) : gDiv (.int i) (.int j) S = some (.int (i / j), S) := by unfold gDiv; rw [gI_int, if_pos (by simp [h, h2])]
@[simp] theorem gInt_int {i : Int} : gInt (.int i) S = some (.int i, S) := rfl
@[simp] theorem gLt_int {i j : Int} : gLt (.int i) (.int j) S = some (.bl (decide (i < j)), S) := rfl
@[simp] theorem gLe_int {i j : Int} : gLe (.int i) (.int j) S = some (.bl (decide (i ≤ j)), S) := rfl
@[simp] theorem gGt_int {i j : Int} : gGt (.int i) (.int j) S = some (.bl (decide (j < i)), S) := rfl
@[simp] theorem gGe_int {i j : Int} : gGe (.int i) (.int j) S = some (.bl (decide (j ≤ i)), S) := rfl
@[simp] theorem gAbs_int {i : Int} : gAbs (.int i) S = some (.int (if i < 0 then -i else i), S) := rfl
@[simp] theorem gNeg_int {i : Int} : gNeg (.int i) S = some (.int (-i), S) := rfl
end
theorem natAbs_mod_lt {i m : Int} (h : 0 < m) : (i % m).natAbs < m.natAbs := by
  have h1 := Int.emod_nonneg i (by omega : m ≠ 0)
  have h2 := Int.emod_lt_of_pos i h
  omega
theorem log2_lt' {n k : Nat} (h : n < 2 ^ k) : n.log2 ≤ k := by
  rcases Nat.eq_zero_or_pos n with rfl | hp
  · simp
  · exact Nat.le_of_lt ((Nat.log2_lt (by omega)).mpr h)
/-! ### the pen -/
def penK (c : Nat) (t ρ : Int) : List (Key × D) := [(.inr "cells", .ref c), (.inr "turn", .int t), (.inr "rest", .int ρ)]
structure Pen (p c : Nat) (n : Nat) (S : Store) : Prop where
  ex : ∃ (ns : List Int) (t ρ : Int), S[p]? = some (.dct (penK c t ρ)) ∧ S[c]? = some (.lst (ns.map D.int)) ∧ ns.length ≤ 63 ∧ (∀ z ∈ ns, z.natAbs < 2 ^ 1048577) ∧ 0 ≤ t ∧ t ≤ n ∧ 0 ≤ ρ ∧ ρ.natAbs < 2 ^ 1048577
  ne : c ≠ p
/-- the store may have grown, the rest stands but for the pen -/
structure Grow (p : Nat) (S S' : Store) : Prop where
  len : S.length ≤ S'.length
  eq : ∀ i, i < S.length → i ≠ p → S'[i]? = S[i]?
theorem Grow.refl (p : Nat) (S : Store) : Grow p S S := ⟨Nat.le_refl _, fun _ _ _ => rfl⟩
theorem Grow.trans {p : Nat} {S S1 S2 : Store} (a : Grow p S S1) (b : Grow p S1 S2) : Grow p S S2 := ⟨Nat.le_trans a.len b.len, fun i h n => (b.eq i (Nat.lt_of_lt_of_le h a.len) n).trans (a.eq i h n)⟩
theorem Grow.set {p : Nat} {S : Store} {o : O} : Grow p S (S.set p o) := ⟨by rw [List.length_set]; exact Nat.le_refl _, fun i _ n => List.getElem?_set_ne (Ne.symm n)⟩
theorem Grow.push {p : Nat} {S T : Store} : Grow p S (S ++ T) := ⟨by rw [List.length_append]; exact Nat.le_add_right _ _, fun i h _ => List.getElem?_append_left h⟩
theorem lt_of_at {S : Store} {i : Nat} {o : O} (h : S[i]? = some o) : i < S.length := (List.getElem?_eq_some_iff.mp h).1
section
variable {p c : Nat} {t ρ : Int} {S : Store}
theorem sub_cells (h : S[p]? = some (.dct (penK c t ρ))) : gSubs (.ref p) (.str "cells") S = some (.ref c, S) := by
  unfold gSubs subD dctD
  dsimp only
  rw [h]
  rfl
theorem sub_turn (h : S[p]? = some (.dct (penK c t ρ))) : gSubs (.ref p) (.str "turn") S = some (.int t, S) := by
  unfold gSubs subD dctD
  dsimp only
  rw [h]
  have : lookK (penK c t ρ) (.inr "turn") = some (.int t) := by kernel_rfl
  show (lookK (penK c t ρ) (.inr "turn")).map _ = _
  rw [this]
  rfl
theorem sub_rest (h : S[p]? = some (.dct (penK c t ρ))) : gSubs (.ref p) (.str "rest") S = some (.int ρ, S) := by
  unfold gSubs subD dctD
  dsimp only
  rw [h]
  have : lookK (penK c t ρ) (.inr "rest") = some (.int ρ) := by kernel_rfl
  show (lookK (penK c t ρ) (.inr "rest")).map _ = _
  rw [this]
  rfl
theorem stor_turn (h : S[p]? = some (.dct (penK c t ρ))) (v : Int) : storD (.ref p) (.str "turn") (.int v) S = some (S.set p (.dct (penK c v ρ))) := by
  unfold storD
  dsimp only
  rw [h]
  have e : putKD (penK c t ρ) (.inr "turn") (.int v) = penK c v ρ := by kernel_rfl
  show (some (Sum.inr ("turn" : Str))).bind _ = _
  simp only [Option.bind_some]
  rw [if_pos (by show 3 < sizeLine; decide)]
  exact congrArg (fun z => some (S.set p (.dct z))) e
theorem stor_rest (h : S[p]? = some (.dct (penK c t ρ))) (v : Int) : storD (.ref p) (.str "rest") (.int v) S = some (S.set p (.dct (penK c t v))) := by
  unfold storD
  dsimp only
  rw [h]
  have e : putKD (penK c t ρ) (.inr "rest") (.int v) = penK c t v := by kernel_rfl
  show (some (Sum.inr ("rest" : Str))).bind _ = _
  simp only [Option.bind_some]
  rw [if_pos (by show 3 < sizeLine; decide)]
  exact congrArg (fun z => some (S.set p (.dct z))) e
end
end Q

namespace Q
open PySem PySem.Spec PyProof.Rows L2
/-- what a pen's draw is (the mirror of _law_draw, as the generator writes it) -/
def bD : MS :=
(mSeq
(mIfS (mB (m2 gGt (m2 gSubs (mVar 0) (mC (.str "rest"))) (mC (.int 0))))
(mSeq
(mSet 2 (m2 gMod (mCall (g1N gInt) (mCons (m2 gSubs (mVar 0) (mC (.str "rest"))) mNil)) (mVar 1)))
(mSeq
(mStore (mVar 0) (mC (.str "rest")) (m2 gDiv (m2 gSubs (mVar 0) (mC (.str "rest"))) (mVar 1)))
(mRet (mVar 2))))
mSkip)
(mSeq
(mSet 3 (m2 gSubs (mVar 0) (mC (.str "turn"))))
(mSeq
(mStore (mVar 0) (mC (.str "turn")) (m2 gAdd (mVar 3) (mC (.int 1))))
(mSeq
(mSet 4 (m2 gAdd (m2 gMul (mC (.int 61)) (mVar 3)) (mC (.int 17))))
(mSeq
(mIfS (mB (m2 gNe (m2 gSubs (mVar 0) (mC (.str "cells"))) (mLst mNil)))
(mSet 4 (m2 gSubs (m2 gSubs (mVar 0) (mC (.str "cells"))) (m2 gMod (mCall (g1N gInt) (mCons (mVar 3) mNil)) (mCall (g1N gLen) (mCons (m2 gSubs (mVar 0) (mC (.str "cells"))) mNil)))))
mSkip)
(mSeq
(mIfS (mAnd (mB (m2 gLt (mVar 3) (mCall (g1N gLen) (mCons (m2 gSubs (mVar 0) (mC (.str "cells"))) mNil)))) (mB (m2 gGe (mCall (g1N gAbs) (mCons (mVar 4) mNil)) (m2 gPow (mC (.int 10)) (mC (.int 18))))))
(mSeq
(mStore (mVar 0) (mC (.str "rest")) (m2 gDiv (m2 gSub (mCall (g1N gAbs) (mCons (mVar 4) mNil)) (m2 gPow (mC (.int 10)) (mC (.int 18)))) (mVar 1)))
(mRet (m2 gMod (m2 gSub (mCall (g1N gAbs) (mCons (mVar 4) mNil)) (m2 gPow (mC (.int 10)) (mC (.int 18)))) (mVar 1))))
mSkip)
(mSeq
(mSet 5 (mLst (mCons (mC (.int 2147483629)) (mCons (mC (.int 2147483647)) (mCons (mC (.int 2147483563)) (mCons (mC (.int 2147483587)) (mCons (mC (.int 2147483579)) mNil)))))))
(mSeq
(mSet 6 (m2 gSubs (mVar 5) (m2 gMod (mCall (g1N gInt) (mCons (mVar 3) mNil)) (mC (.int 5)))))
(mSeq
(mSet 7 (m2 gAdd (m2 gMul (m2 gMod (mCall (g1N gInt) (mCons (mVar 4) mNil)) (mC (.int 4294967291))) (mC (.int 48271))) (m2 gMul (m2 gMul (mC (.int 40503)) (mVar 3)) (mVar 3))))
(mSeq
(mSet 7 (m2 gMod (mCall (g1N gInt) (mCons (m2 gAdd (m2 gAdd (mVar 7) (m2 gMul (mC (.int 69621)) (mVar 3))) (mC (.int 11))) mNil)) (mVar 6)))
(mSeq
(mSet 7 (m2 gMod (mCall (g1N gInt) (mCons (m2 gAdd (m2 gAdd (m2 gAdd (m2 gMul (mVar 7) (mVar 7)) (m2 gMul (mC (.int 16807)) (mVar 7))) (m2 gMul (mC (.int 7)) (mVar 3))) (mC (.int 5))) mNil)) (mC (.int 4294967279))))
(mRet (m2 gMod (mCall (g1N gInt) (mCons (m2 gDiv (m2 gMod (mCall (g1N gInt) (mCons (m2 gMul (mVar 7) (m2 gAdd (mVar 7) (mC (.int 39916801)))) mNil)) (mC (.int 4294967231))) (mC (.int 32))) mNil)) (mVar 1))))))))))))))
def MD : MF := mDef 8 bD
theorem mIfS_eq {mt : MT} {x y : MS} {en : En} {S : Store} : mIfS mt x y en S = (mt en S).stm en fun b S1 => match b with
  | true => x en S1
  | false => y en S1 := rfl
theorem absI (i : Int) : (if i < 0 then -i else i) = (i.natAbs : Int) := by split <;> omega
theorem logSmall {i : Int} (h : i.natAbs < 2 ^ 400) : i.natAbs.log2 ≤ 400 := log2_lt' h
theorem natAbs_le {i : Int} {m : Nat} (h1 : 0 ≤ i) (h2 : i < m) : i.natAbs < m := by omega
theorem Pen.set {p c n : Nat} {S : Store} {ns : List Int} {t ρ : Int} (hp : p < S.length) (hc : S[c]? = some (.lst (ns.map D.int))) (ne : c ≠ p) (hl : ns.length ≤ 63) (hb : ∀ z ∈ ns, z.natAbs < 2 ^ 1048577) (h1 : 0 ≤ t) (h2 : t ≤ n) (h3 : 0 ≤ ρ) (h4 : ρ.natAbs < 2 ^ 1048577) :
    Pen p c n (S.set p (.dct (penK c t ρ))) :=
  ⟨⟨ns, t, ρ, by rw [List.getElem?_set_self hp], by rw [List.getElem?_set_ne (Ne.symm ne)]; exact hc, hl, hb, h1, h2, h3, h4⟩, ne⟩
end Q

namespace Q
open PySem PySem.Spec PyProof.Rows L2
theorem mapM_ints {f : D → Option PyData} (h : ∀ i : Int, f (.int i) = some (.int i)) : ∀ ns : List Int, (ns.map D.int).mapM f = some (ns.map PyData.int)
  | [] => rfl
  | n :: ns => by
    rw [List.map_cons, List.mapM_cons, h, mapM_ints h ns]
    rfl
theorem canLay_ints' : ∀ ns : List Int, PyData.canLayAll0 (ns.map PyData.int) = true
  | [] => rfl
  | n :: ns => by rw [List.map_cons, PyData.canLayAll0, canLay_ints' ns]; rfl
theorem depth_ints : ∀ ns : List Int, PyData.depthAll (ns.map PyData.int) = 0
  | [] => rfl
  | n :: ns => by rw [List.map_cons, PyData.depthAll, depth_ints ns]; rfl
theorem shaped_ints (ns : List Int) : SeqAt.shaped (.list (ns.map PyData.int)) = true := by
  unfold SeqAt.shaped
  rw [PyData.canLay0, canLay_ints', PyData.depth, depth_ints]
  rfl
theorem py_ints {S : Store} {c : Nat} {ns : List Int} (h : S[c]? = some (.lst (ns.map D.int))) : pyD S (.ref c) = some (.list (ns.map PyData.int)) := by
  unfold pyD toPy
  rw [h]
  show ((ns.map D.int).mapM (toPy S 63)).map PyData.list = _
  rw [mapM_ints (fun i => rfl)]
  rfl
theorem ne_nil {S : Store} {c m : Nat} {ns : List Int} (h : S[c]? = some (.lst (ns.map D.int))) (h2 : S[m]? = some (.lst [])) : gNe (.ref c) (.ref m) S = some (.bl (!ns.isEmpty), S) := by
  have e2 : pyD S (.ref m) = some (.list []) := py_ints (ns := []) h2
  unfold gNe eqP
  dsimp only
  unfold eqPD
  rw [py_ints h, e2]
  simp only [Option.bind_some]
  rw [if_pos ⟨shaped_ints ns, shaped_ints []⟩]
  cases ns with
  | nil => rfl
  | cons n l => rfl
theorem len_at {S : Store} {c : Nat} {xs : List D} (h : S[c]? = some (.lst xs)) : gLen (.ref c) S = some (.int xs.length, S) := by
  unfold gLen lenD
  dsimp only
  rw [h]
  rfl
theorem item_at {S : Store} {c i : Nat} {xs : List D} {d : D} (h : S[c]? = some (.lst xs)) (h2 : xs[i]? = some d) : gSubs (.ref c) (.int i) S = some (d, S) := by
  have hl := (List.getElem?_eq_some_iff.mp h2).1
  unfold gSubs subD dctD
  dsimp only
  rw [h]
  show (itemD (.ref c) (.int i) S).map _ = _
  unfold itemD
  dsimp only
  rw [h]
  have : L2.atI xs (i : Int) = some d := L2.atI_nat h2
  dsimp only
  rw [this]
  rfl
theorem pow18 {S : Store} : gPow (.int 10) (.int 18) S = some (.int (10 ^ 18), S) := by
  unfold gPow
  rw [gI_int, if_pos (by decide)]
  rfl
def primesD : List D := [.int 2147483629, .int 2147483647, .int 2147483563, .int 2147483587, .int 2147483579]
theorem prime_at (i : Nat) (h : i < 5) : ∃ q : Int, primesD[i]? = some (.int q) ∧ 2147483563 ≤ q ∧ q ≤ 2147483647 := by
  match i, h with
  | 0, _ => exact ⟨_, rfl, by decide, by decide⟩
  | 1, _ => exact ⟨_, rfl, by decide, by decide⟩
  | 2, _ => exact ⟨_, rfl, by decide, by decide⟩
  | 3, _ => exact ⟨_, rfl, by decide, by decide⟩
  | 4, _ => exact ⟨_, rfl, by decide, by decide⟩
/-- the last part of the draw: four numbers mixed -/
def bD2 : MS := 
(mSeq
(mSet 5 (mLst (mCons (mC (.int 2147483629)) (mCons (mC (.int 2147483647)) (mCons (mC (.int 2147483563)) (mCons (mC (.int 2147483587)) (mCons (mC (.int 2147483579)) mNil)))))))
(mSeq
(mSet 6 (m2 gSubs (mVar 5) (m2 gMod (mCall (g1N gInt) (mCons (mVar 3) mNil)) (mC (.int 5)))))
(mSeq
(mSet 7 (m2 gAdd (m2 gMul (m2 gMod (mCall (g1N gInt) (mCons (mVar 4) mNil)) (mC (.int 4294967291))) (mC (.int 48271))) (m2 gMul (m2 gMul (mC (.int 40503)) (mVar 3)) (mVar 3))))
(mSeq
(mSet 7 (m2 gMod (mCall (g1N gInt) (mCons (m2 gAdd (m2 gAdd (mVar 7) (m2 gMul (mC (.int 69621)) (mVar 3))) (mC (.int 11))) mNil)) (mVar 6)))
(mSeq
(mSet 7 (m2 gMod (mCall (g1N gInt) (mCons (m2 gAdd (m2 gAdd (m2 gAdd (m2 gMul (mVar 7) (mVar 7)) (m2 gMul (mC (.int 16807)) (mVar 7))) (m2 gMul (mC (.int 7)) (mVar 3))) (mC (.int 5))) mNil)) (mC (.int 4294967279))))
(mRet (m2 gMod (mCall (g1N gInt) (mCons (m2 gDiv (m2 gMod (mCall (g1N gInt) (mCons (m2 gMul (mVar 7) (m2 gAdd (mVar 7) (mC (.int 39916801)))) mNil)) (mC (.int 4294967231))) (mC (.int 32))) mNil)) (mVar 1))))))))
theorem draw_tail {en : En} {S : Store} {t cell size : Int} {p : Nat} (h0 : en.length = 8) (hc : ∀ i : Nat, i = 1 ∨ i = 3 ∨ i = 4 → en[i]? = some (some (if i = 1 then .int size else if i = 3 then .int t else .int cell))) (ht0 : 0 ≤ t) (ht : t < 2 ^ 70) (hs : 0 < size) :
    ∃ r : Int, bD2 en S = .rt (.int r) (S ++ [.lst primesD]) ∧ 0 ≤ r ∧ r < size := by
  have e1 := hc 1 (by simp)
  have e3 := hc 3 (by simp)
  have e4 := hc 4 (by simp)
  simp at e1 e3 e4
  obtain ⟨q, hq, hq1, hq2⟩ := prime_at (t % 5).toNat (by omega)
  have hn : (t % 5) = (((t % 5).toNat : Nat) : Int) := by omega
  have hS : (S ++ [O.lst primesD])[S.length]? = some (.lst primesD) := by simp
  match en, h0 with
  | [x0, x1, x2, x3, x4, x5, x6, x7], _ =>
    simp at e1 e3 e4
    subst e1; subst e3; subst e4
    have a1 : (cell % 4294967291).natAbs.log2 + (48271 : Int).natAbs.log2 < 1000000 := by
      have := log2_lt' (n := (cell % 4294967291).natAbs) (k := 33) (by omega)
      have := log2_lt' (n := (48271 : Int).natAbs) (k := 33) (by decide)
      omega
    have a2 : (40503 : Int).natAbs.log2 + t.natAbs.log2 < 1000000 := by
      have := log2_lt' (n := t.natAbs) (k := 70) (by omega)
      have := log2_lt' (n := (40503 : Int).natAbs) (k := 33) (by decide)
      omega
    have b3 : 0 ≤ 40503 * t ∧ 40503 * t < 2 ^ 90 := by omega
    have a3 : (40503 * t).natAbs.log2 + t.natAbs.log2 < 1000000 := by
      have := log2_lt' (n := t.natAbs) (k := 70) (by omega)
      have := log2_lt' (n := (40503 * t).natAbs) (k := 90) (by omega)
      omega
    have a4 : (69621 : Int).natAbs.log2 + t.natAbs.log2 < 1000000 := by
      have := log2_lt' (n := t.natAbs) (k := 70) (by omega)
      have := log2_lt' (n := (69621 : Int).natAbs) (k := 33) (by decide)
      omega
    generalize hm1 : (cell % 4294967291 * 48271 + 40503 * t * t + 69621 * t + 11) % q = m1
    have m1a : 0 ≤ m1 := by rw [← hm1]; exact Int.emod_nonneg _ (by omega)
    have m1b : m1 < 2147483647 := by
      have := Int.emod_lt_of_pos (cell % 4294967291 * 48271 + 40503 * t * t + 69621 * t + 11) (show 0 < q by omega)
      omega
    have a5 : m1.natAbs.log2 + m1.natAbs.log2 < 1000000 := by
      have := log2_lt' (n := m1.natAbs) (k := 33) (by omega)
      omega
    have a6 : (16807 : Int).natAbs.log2 + m1.natAbs.log2 < 1000000 := by
      have := log2_lt' (n := m1.natAbs) (k := 33) (by omega)
      have := log2_lt' (n := (16807 : Int).natAbs) (k := 33) (by decide)
      omega
    have a7 : (7 : Int).natAbs.log2 + t.natAbs.log2 < 1000000 := by
      have := log2_lt' (n := t.natAbs) (k := 70) (by omega)
      have := log2_lt' (n := (7 : Int).natAbs) (k := 33) (by decide)
      omega
    generalize hm2 : (m1 * m1 + 16807 * m1 + 7 * t + 5) % 4294967279 = m2
    have m2a : 0 ≤ m2 := by rw [← hm2]; exact Int.emod_nonneg _ (by omega)
    have m2b : m2 < 4294967279 := by rw [← hm2]; exact Int.emod_lt_of_pos _ (by omega)
    have a8 : m2.natAbs.log2 + (m2 + 39916801).natAbs.log2 < 1000000 := by
      have := log2_lt' (n := m2.natAbs) (k := 33) (by omega)
      have := log2_lt' (n := (m2 + 39916801).natAbs) (k := 34) (by omega)
      omega
    refine ⟨m2 * (m2 + 39916801) % 4294967231 / 32 % size, ?_, Int.emod_nonneg _ (by omega), Int.emod_lt_of_pos _ hs⟩
    have hit := item_at (i := (t % 5).toNat) hS hq
    rw [← hn] at hit
    have l1 : mLst (mCons (mC (.int 2147483629)) (mCons (mC (.int 2147483647)) (mCons (mC (.int 2147483563)) (mCons (mC (.int 2147483587)) (mCons (mC (.int 2147483579)) mNil))))) [x0, some (.int size), x2, some (.int t), some (.int cell), x5, x6, x7] S = .ok (.ref S.length) (S ++ [.lst primesD]) := by
      unfold mLst
      simp
      rfl
    simp [bD2, l1, mVar, gMod_int, hit, gMul_int a1, gMul_int a2, gMul_int a3, gMul_int a4, gMod_int (show 0 < q by omega), hm1, gMul_int a5, gMul_int a6, gMul_int a7, hm2, gMul_int a8, gDiv_int (show (0:Int) < 32 by decide) (by decide), gMod_int hs]
end Q

namespace Q
open PySem PySem.Spec PyProof.Rows L2
def bD4 : MS := (mSeq
  (mIfS (mAnd (mB (m2 gLt (mVar 3) (mCall (g1N gLen) (mCons (m2 gSubs (mVar 0) (mC (.str "cells"))) mNil)))) (mB (m2 gGe (mCall (g1N gAbs) (mCons (mVar 4) mNil)) (m2 gPow (mC (.int 10)) (mC (.int 18))))))
  (mSeq
  (mStore (mVar 0) (mC (.str "rest")) (m2 gDiv (m2 gSub (mCall (g1N gAbs) (mCons (mVar 4) mNil)) (m2 gPow (mC (.int 10)) (mC (.int 18)))) (mVar 1)))
  (mRet (m2 gMod (m2 gSub (mCall (g1N gAbs) (mCons (mVar 4) mNil)) (m2 gPow (mC (.int 10)) (mC (.int 18)))) (mVar 1))))
  mSkip)
    bD2)
def bD3 : MS := (mSeq
  (mIfS (mB (m2 gNe (m2 gSubs (mVar 0) (mC (.str "cells"))) (mLst mNil)))
  (mSet 4 (m2 gSubs (m2 gSubs (mVar 0) (mC (.str "cells"))) (m2 gMod (mCall (g1N gInt) (mCons (mVar 3) mNil)) (mCall (g1N gLen) (mCons (m2 gSubs (mVar 0) (mC (.str "cells"))) mNil)))))
  mSkip)
    bD4)
theorem draw4 {p c n : Nat} {S : Store} {ns : List Int} {t ρ cell size : Int} {x2 x5 x6 x7 : Option D} (hp : S[p]? = some (.dct (penK c (t + 1) ρ))) (hc : S[c]? = some (.lst (ns.map D.int))) (hl : ns.length ≤ 63) (hb : ∀ z ∈ ns, z.natAbs < 2 ^ 1048577) (hne : c ≠ p) (hcell : ns ≠ [] → cell.natAbs < 2 ^ 1048577)
    (ht0 : 0 ≤ t) (htn : t ≤ n) (hn : n < 2 ^ 64) (hr0 : 0 ≤ ρ) (hrb : ρ.natAbs < 2 ^ 1048577) (h0 : 0 < size) (h1 : size < 2 ^ 64) :
    ∃ (r : Int) (S' : Store), endM (bD4 [some (.ref p), some (.int size), x2, some (.int t), some (.int cell), x5, x6, x7] S) = .ok (.int r) S' ∧ 0 ≤ r ∧ r < size ∧ Pen p c (n + 1) S' ∧ Grow p S S' := by
  have hpl := lt_of_at hp
  have hcl := lt_of_at hc
  have hs9 : size.natAbs.log2 < 9000 := by
    have := log2_lt' (n := size.natAbs) (k := 64) (by omega)
    omega
  have hlen : gLen (.ref c) S = some (.int ns.length, S) := by rw [len_at hc, List.length_map]
  obtain ⟨r, hr, hr1, hr2⟩ := draw_tail (en := [some (.ref p), some (.int size), x2, some (.int t), some (.int cell), x5, x6, x7]) (S := S) (t := t) (cell := cell) (size := size) (p := p) rfl (by rintro i (rfl | rfl | rfl) <;> rfl) ht0 (by omega) h0
  have tail : bD4 [some (.ref p), some (.int size), x2, some (.int t), some (.int cell), x5, x6, x7] S = bD2 [some (.ref p), some (.int size), x2, some (.int t), some (.int cell), x5, x6, x7] S →
      ∃ (r : Int) (S' : Store), endM (bD4 [some (.ref p), some (.int size), x2, some (.int t), some (.int cell), x5, x6, x7] S) = .ok (.int r) S' ∧ 0 ≤ r ∧ r < size ∧ Pen p c (n + 1) S' ∧ Grow p S S' := fun e => by
    refine ⟨r, S ++ [.lst primesD], by rw [e, hr]; rfl, hr1, hr2, ⟨⟨ns, t + 1, ρ, ?_, ?_, hl, hb, by omega, by omega, hr0, hrb⟩, hne⟩, Grow.push⟩
    · rw [List.getElem?_append_left hpl]; exact hp
    · rw [List.getElem?_append_left hcl]; exact hc
  by_cases hlt : t < ns.length
  · by_cases hbig : (1000000000000000000 : Int) ≤ cell.natAbs
    · have hnn : ns ≠ [] := fun e => by subst e; simp at hlt; omega
      have hcb := hcell hnn
      refine ⟨((cell.natAbs : Int) - 10 ^ 18) % size, S.set p (.dct (penK c (t + 1) (((cell.natAbs : Int) - 10 ^ 18) / size))), ?_, Int.emod_nonneg _ (by omega), Int.emod_lt_of_pos _ h0, Pen.set hpl hc hne hl hb (by omega) (by omega) (Int.ediv_nonneg (by omega) (by omega)) ?_, Grow.set⟩
      · simp [bD4, mIfS_eq, mAnd, mVar, sub_cells hp, hlen, hlt, pow18, absI, hbig, gDiv_int h0 hs9, stor_rest hp, gMod_int h0]
      · have h3 : ((cell.natAbs : Int) - 10 ^ 18) / size ≤ (cell.natAbs : Int) - 10 ^ 18 := Int.ediv_le_self _ (by omega)
        have h4 : 0 ≤ ((cell.natAbs : Int) - 10 ^ 18) / size := Int.ediv_nonneg (by omega) (by omega)
        generalize ((cell.natAbs : Int) - 10 ^ 18) / size = q at h3 h4
        generalize (2 : Nat) ^ 1048577 = B at hcb
        omega
    · refine tail ?_
      simp [bD4, mIfS_eq, mAnd, mVar, sub_cells hp, hlen, hlt, pow18, absI, hbig]
  · refine tail ?_
    simp [bD4, mIfS_eq, mAnd, mVar, sub_cells hp, hlen, hlt]
end Q

namespace Q
open PySem PySem.Spec PyProof.Rows L2
theorem draw3 {p c n : Nat} {S : Store} {ns : List Int} {t ρ cell size : Int} {x2 x5 x6 x7 : Option D} (hp : S[p]? = some (.dct (penK c (t + 1) ρ))) (hc : S[c]? = some (.lst (ns.map D.int))) (hl : ns.length ≤ 63) (hb : ∀ z ∈ ns, z.natAbs < 2 ^ 1048577) (hne : c ≠ p)
    (ht0 : 0 ≤ t) (htn : t ≤ n) (hn : n < 2 ^ 64) (hr0 : 0 ≤ ρ) (hrb : ρ.natAbs < 2 ^ 1048577) (h0 : 0 < size) (h1 : size < 2 ^ 64) :
    ∃ (r : Int) (S' : Store), endM (bD3 [some (.ref p), some (.int size), x2, some (.int t), some (.int cell), x5, x6, x7] S) = .ok (.int r) S' ∧ 0 ≤ r ∧ r < size ∧ Pen p c (n + 1) S' ∧ Grow p S S' := by
  have hpl := lt_of_at hp
  have hcl := lt_of_at hc
  have hp1 : (S ++ [O.lst []])[p]? = some (.dct (penK c (t + 1) ρ)) := by rw [List.getElem?_append_left hpl]; exact hp
  have hc1 : (S ++ [O.lst []])[c]? = some (.lst (ns.map D.int)) := by rw [List.getElem?_append_left hcl]; exact hc
  have hm : (S ++ [O.lst []])[S.length]? = some (.lst []) := by simp
  have nn := ne_nil (S := S ++ [O.lst []]) hc1 hm
  have lnil : mLst mNil [some (.ref p), some (.int size), x2, some (.int t), some (.int cell), x5, x6, x7] S = .ok (.ref S.length) (S ++ [.lst []]) := rfl
  have hlen : gLen (.ref c) (S ++ [O.lst []]) = some (.int ns.length, S ++ [O.lst []]) := by rw [len_at hc1, List.length_map]
  by_cases he : ns = []
  · obtain ⟨r, S', e, q1, q2, q3, q4⟩ := draw4 (S := S ++ [O.lst []]) (cell := cell) (x2 := x2) (x5 := x5) (x6 := x6) (x7 := x7) hp1 hc1 hl hb hne (fun h => absurd he h) ht0 htn hn hr0 hrb h0 h1
    refine ⟨r, S', ?_, q1, q2, q3, Grow.push.trans q4⟩
    rw [← e]
    congr 1
    unfold bD3
    rw [mSeq_eq, mIfS_f (S1 := S ++ [.lst []])]
    · rfl
    · subst he
      simp [mVar, sub_cells hp, lnil, nn]
  · have hpos : (0 : Int) < ns.length := by
      cases ns with
      | nil => exact absurd rfl he
      | cons a l => simp
    have k1 : 0 ≤ t % ns.length := Int.emod_nonneg _ (by omega)
    have k2 : t % ns.length < ns.length := Int.emod_lt_of_pos _ hpos
    have hk : (t % ns.length).toNat < ns.length := by omega
    have hit : gSubs (.ref c) (.int (t % ns.length)) (S ++ [O.lst []]) = some (.int ns[(t % ns.length).toNat], S ++ [O.lst []]) := by
      have := item_at (S := S ++ [O.lst []]) (i := (t % ns.length).toNat) hc1 (d := .int ns[(t % ns.length).toNat]) (by rw [List.getElem?_map, List.getElem?_eq_getElem hk]; rfl)
      rw [show (((t % ns.length).toNat : Nat) : Int) = t % ns.length by omega] at this
      exact this
    obtain ⟨r, S', e, q1, q2, q3, q4⟩ := draw4 (S := S ++ [O.lst []]) (cell := ns[(t % ns.length).toNat]) (x2 := x2) (x5 := x5) (x6 := x6) (x7 := x7) hp1 hc1 hl hb hne (fun _ => hb _ (List.getElem_mem hk)) ht0 htn hn hr0 hrb h0 h1
    refine ⟨r, S', ?_, q1, q2, q3, Grow.push.trans q4⟩
    rw [← e]
    congr 1
    unfold bD3
    rw [mSeq_eq, mIfS_t (S1 := S ++ [.lst []])]
    · simp [mVar, sub_cells hp1, hlen, gMod_int hpos, hit]
    · have : ns.isEmpty = false := by cases ns with | nil => exact absurd rfl he | cons a l => rfl
      simp [mVar, sub_cells hp, lnil, nn, this]
/-- a draw: a number below the size, the pen one turn on at most -/
theorem draw_ok' {p c n : Nat} {S : Store} {size : Int} (P : Pen p c n S) (hn : n < 2 ^ 64) (h0 : 0 < size) (h1 : size < 2 ^ 64) :
    ∃ (r : Int) (S' : Store), MD [.ref p, .int size] S = .ok (.int r) S' ∧ 0 ≤ r ∧ r < size ∧ Pen p c (n + 1) S' ∧ Grow p S S' := by
  by_cases hρ : ∃ (ns : List Int) (t ρ : Int), S[p]? = some (.dct (penK c t ρ)) ∧ S[c]? = some (.lst (ns.map D.int)) ∧ ns.length ≤ 63 ∧ (∀ z ∈ ns, z.natAbs < 2 ^ 1048577) ∧ 0 ≤ t ∧ t ≤ n ∧ 0 ≤ ρ ∧ ρ.natAbs < 2 ^ 1048577 ∧ 0 < ρ
  · obtain ⟨ns, t, ρ, hp, hc, hl, hb, ht0, htn, hr0, hrb, hρ⟩ := hρ
    have hpl := lt_of_at hp
    have hs9 : size.natAbs.log2 < 9000 := by
      have := log2_lt' (n := size.natAbs) (k := 64) (by omega)
      omega
    refine ⟨ρ % size, S.set p (.dct (penK c t (ρ / size))), ?_, Int.emod_nonneg _ (by omega), Int.emod_lt_of_pos _ h0, Pen.set hpl hc P.ne hl hb ht0 (by omega) (Int.ediv_nonneg hr0 (by omega)) ?_, Grow.set⟩
    · simp [MD, mDef, startE, bD, mIfS_eq, mVar, sub_rest hp, gMod_int h0, gDiv_int h0 hs9, hρ, stor_rest hp]
    · have h3 : ρ / size ≤ ρ := Int.ediv_le_self _ hr0
      have h2 : 0 ≤ ρ / size := Int.ediv_nonneg hr0 (by omega)
      generalize ρ / size = q at h2 h3
      generalize (2 : Nat) ^ 1048577 = B at hrb
      omega
  · obtain ⟨⟨ns, t, ρ, hp, hc, hl, hb, ht0, htn, hr0, hrb⟩, hne⟩ := P
    have hz : ¬ 0 < ρ := fun h => hρ ⟨ns, t, ρ, hp, hc, hl, hb, ht0, htn, hr0, hrb, h⟩
    have hpl := lt_of_at hp
    have hp1 : (S.set p (.dct (penK c (t + 1) ρ)))[p]? = some (.dct (penK c (t + 1) ρ)) := by rw [List.getElem?_set_self hpl]
    have hc1 : (S.set p (.dct (penK c (t + 1) ρ)))[c]? = some (.lst (ns.map D.int)) := by rw [List.getElem?_set_ne (Ne.symm hne)]; exact hc
    obtain ⟨r, S', e, q1, q2, q3, q4⟩ := draw3 (cell := 61 * t + 17) (x2 := none) (x5 := none) (x6 := none) (x7 := none) hp1 hc1 hl hb hne ht0 htn hn hr0 hrb h0 h1
    refine ⟨r, S', ?_, q1, q2, q3, Grow.set.trans q4⟩
    rw [← e]
    have a1 : (61 : Int).natAbs.log2 + t.natAbs.log2 < 1000000 := by
      have := log2_lt' (n := t.natAbs) (k := 70) (by omega)
      have := log2_lt' (n := (61 : Int).natAbs) (k := 33) (by decide)
      omega
    show endM ((mSeq _ (mSeq _ (mSeq _ (mSeq _ bD3)))) [some (.ref p), some (.int size), none, none, none, none, none, none] S) = _
    simp [mIfS_eq, mVar, sub_rest hp, sub_turn hp, hz, stor_turn hp, gMul_int a1]
end Q

namespace Q
open PySem PySem.Spec PyProof.Rows L2
/-! ### loops -/
/-- a for over a range -/
theorem forL_rng {lo : Int} {n N : Nat} {g : Pat} {mb : MS} (I : Nat → En → Store → Prop) (step : ∀ i en S, i < n → I i en S → ∃ ps en' S', g (.int (lo + i)) S = some ps ∧ (mb (setsE en ps) S = .nx en' S' ∨ mb (setsE en ps) S = .ct en' S') ∧ I (i + 1) en' S') :
    ∀ (m i : Nat) (en : En) (S : Store), i + m = n → m < N → I i en S → ∃ en' S', forL (.rng lo n) g mb N i en S = .nx en' S' ∧ I n en' S'
  | 0, i, en, S, e, hN, h => by
    obtain ⟨N', rfl⟩ : ∃ k, N = k + 1 := ⟨N - 1, by omega⟩
    have e : i = n := by omega
    subst e
    refine ⟨en, S, ?_, h⟩
    unfold forL nextM
    simp
  | m + 1, i, en, S, e, hN, h => by
    obtain ⟨N', rfl⟩ : ∃ k, N = k + 1 := ⟨N - 1, by omega⟩
    have hi : i < n := by omega
    obtain ⟨ps, en1, S1, e1, e2, h1⟩ := step i en S hi h
    obtain ⟨en', S', e3, h3⟩ := forL_rng I step m (i + 1) en1 S1 (by omega) (by omega) h1 (N := N')
    refine ⟨en', S', ?_, h3⟩
    unfold forL nextM
    rw [if_pos hi]
    dsimp only
    rw [e1]
    dsimp only
    rcases e2 with e2 | e2 <;> rw [e2] <;> exact e3
/-- a for over values that stand (a tuple; also zip and enumerate of such) -/
theorem forL_vals {mi : MI} {xs : List D} {N : Nat} {g : Pat} {mb : MS} (hm : ∀ i S, nextM mi i S = some xs[i]?) (I : Nat → En → Store → Prop) (step : ∀ i d en S, xs[i]? = some d → I i en S → ∃ ps en' S', g d S = some ps ∧ (mb (setsE en ps) S = .nx en' S' ∨ mb (setsE en ps) S = .ct en' S') ∧ I (i + 1) en' S') :
    ∀ (m i : Nat) (en : En) (S : Store), i + m = xs.length → m < N → I i en S → ∃ en' S', forL mi g mb N i en S = .nx en' S' ∧ I xs.length en' S'
  | 0, i, en, S, e, hN, h => by
    obtain ⟨N', rfl⟩ : ∃ k, N = k + 1 := ⟨N - 1, by omega⟩
    have e : i = xs.length := by omega
    refine ⟨en, S, ?_, e ▸ h⟩
    unfold forL
    rw [hm, List.getElem?_eq_none (by omega)]
  | m + 1, i, en, S, e, hN, h => by
    obtain ⟨N', rfl⟩ : ∃ k, N = k + 1 := ⟨N - 1, by omega⟩
    have hi : i < xs.length := by omega
    obtain ⟨ps, en1, S1, e1, e2, h1⟩ := step i xs[i] en S (List.getElem?_eq_getElem hi) h
    obtain ⟨en', S', e3, h3⟩ := forL_vals hm I step m (i + 1) en1 S1 (by omega) (by omega) h1 (N := N')
    refine ⟨en', S', ?_, h3⟩
    unfold forL
    rw [hm, List.getElem?_eq_getElem hi]
    dsimp only
    rw [e1]
    dsimp only
    rcases e2 with e2 | e2 <;> rw [e2] <;> exact e3
/-- a list comprehension over what stands; the i-th item's value z i -/
theorem compL_run {mi : MI} {n n0 : Nat} {g : Pat} {mt : MT} {me : ME} {en : En} (I : Nat → List D → Store → Prop) (hend : ∀ acc S, I n acc S → nextM mi n S = some none)
    (step : ∀ i acc S, i < n → I i acc S → S[n0]? = some (.lst acc) → acc.length < sizeLine → ∃ d ps z S2, nextM mi i S = some (some d) ∧ g d S = some ps ∧ mt (setsE en ps) S = .ok true S ∧ me (setsE en ps) S = .ok z S2 ∧ S2[n0]? = some (.lst acc) ∧ I (i + 1) (acc ++ [z]) (S2.set n0 (.lst (acc ++ [z])))) :
    ∀ (m i N : Nat) (acc : List D) (S : Store), i + m = n → m < N → acc.length = i → n < sizeLine → I i acc S → S[n0]? = some (.lst acc) → ∃ acc' S', compL mi g mt me n0 N i en S = .ok (.ref n0) S' ∧ acc'.length = n ∧ S'[n0]? = some (.lst acc') ∧ I n acc' S'
  | 0, i, N, acc, S, e, hN, hl, hz, h, ha => by
    obtain ⟨N', rfl⟩ : ∃ k, N = k + 1 := ⟨N - 1, by omega⟩
    have e : i = n := by omega
    subst e
    refine ⟨acc, S, ?_, hl, ha, h⟩
    unfold compL
    rw [hend _ _ h]
  | m + 1, i, N, acc, S, e, hN, hl, hz, h, ha => by
    obtain ⟨N', rfl⟩ : ∃ k, N = k + 1 := ⟨N - 1, by omega⟩
    have hi : i < n := by omega
    have hs : acc.length < sizeLine := by omega
    obtain ⟨d, ps, z, S2, e1, e2, e3, e4, e5, h1⟩ := step i acc S hi h ha hs
    have hn0 := lt_of_at e5
    obtain ⟨acc', S', q1, q2, q3, q4⟩ := compL_run I hend step m (i + 1) N' (acc ++ [z]) _ (by omega) (by omega) (by simp [hl]) hz h1 (by rw [List.getElem?_set_self hn0])
    refine ⟨acc', S', ?_, q2, q3, q4⟩
    unfold compL
    rw [e1]
    dsimp only
    rw [e2]
    dsimp only
    rw [e3]
    simp only [Res.calm, bind_ok]
    rw [e4]
    simp only [bind_ok]
    rw [e5]
    dsimp only
    rw [if_pos hs]
    exact q1
theorem mYes_eq {en : En} {S : Store} : mYes en S = .ok true S := rfl
/-! ### the length of a shown value -/
theorem textFrom_le : ∀ (ts : List Str) (k : Nat) (acc : Str), (textFrom k acc ts).length ≤ acc.length + (ts.map fun t => t.length + 2).sum
  | [], _, acc => by show acc.length ≤ _; simp
  | t :: r, k, acc => by
    have h := textFrom_le r (k + 1) (acc ++ (if k > 0 then ", " else "" : String) ++ t)
    have e : (acc ++ (if k > 0 then ", " else "" : String) ++ t).length = acc.length + (if k > 0 then 2 else 0) + t.length := by
      rw [strLen_append, strLen_append]
      split <;> rfl
    have e2 : textFrom k acc (t :: r) = textFrom (k + 1) (acc ++ (if k > 0 then ", " else "" : String) ++ t) r := rfl
    rw [e2]
    simp only [List.map_cons, List.sum_cons]
    have : (if k > 0 then 2 else 0) ≤ 2 := by split <;> omega
    omega
end Q

namespace Q
open PySem PySem.Spec PyProof.Rows L2
/-! ### pieces that only add to the store -/
theorem at_mid {S T : Store} {o : O} : (S ++ o :: T)[S.length]? = some o := by simp
theorem at_left {S T : Store} {i : Nat} {o : O} (h : S[i]? = some o) : (S ++ T)[i]? = some o := by rw [List.getElem?_append_left (lt_of_at h)]; exact h
theorem set_mid {S T : Store} {o o' : O} : (S ++ o :: T).set S.length o' = S ++ o' :: T := by simp
theorem comp_pure {m : MIt} {mi : MI} {xs zs : List D} {g : Pat} {me : ME} {own : List Nat} {N : Nat} {en : En} {S S1 : Store} (hm : m en S = .ok mi S1) (hmi : ∀ i S, nextM mi i S = some xs[i]?) (hz : zs.length = xs.length) (hN : xs.length < N) (hN2 : xs.length < sizeLine)
    (step : ∀ (i : Nat) (d z : D), xs[i]? = some d → zs[i]? = some z → ∃ ps, (∀ S, g d S = some ps) ∧ ∀ T, ∃ T', me (setsE (wipeD en own) ps) (S1 ++ T) = .ok z (S1 ++ T ++ T')) : ∃ T, mComp m g mYes me own N en S = .ok (.ref S1.length) (S1 ++ (.lst zs :: T)) := by
  have run := compL_run (mi := mi) (n := xs.length) (n0 := S1.length) (g := g) (mt := mYes) (me := me) (en := wipeD en own) (fun i acc S' => acc = zs.take i ∧ ∃ T, S' = S1 ++ (.lst acc :: T)) (fun acc S' _ => by rw [hmi, List.getElem?_eq_none (Nat.le_refl _)]) (fun i acc S' hi ⟨ha, T, hS⟩ h0 _ => ?_) xs.length 0 N [] (S1 ++ [.lst []]) (by omega) hN rfl hN2 ⟨by simp, [], rfl⟩ at_mid
  · obtain ⟨acc', S', e, hl, h0, ha, T, hS⟩ := run
    refine ⟨T, ?_⟩
    unfold mComp
    rw [hm]
    show compL mi g mYes me S1.length N 0 (wipeD en own) (S1 ++ [.lst []]) = _
    rw [e, hS, ha, List.take_of_length_le (by omega)]
  · have hd : xs[i]? = some xs[i] := List.getElem?_eq_getElem hi
    have hzi : i < zs.length := by omega
    obtain ⟨ps, e1, e2⟩ := step i xs[i] zs[i] hd (List.getElem?_eq_getElem hzi)
    obtain ⟨T', e3⟩ := e2 (.lst acc :: T)
    subst hS
    refine ⟨xs[i], ps, zs[i], _, by rw [hmi, hd], e1 _, rfl, e3, ?_, ?_, T ++ T', ?_⟩
    · rw [List.append_assoc]; exact at_mid
    · rw [ha, List.take_add_one, List.getElem?_eq_getElem hzi]; rfl
    · rw [List.append_assoc]; exact set_mid
theorem sum_at {S : Store} {k : Nat} {ns : List Int} (h : S[k]? = some (.lst (ns.map D.int))) : gSum (.ref k) S = some (.int ns.sum, S) := by
  have e : ∀ l : List Int, intsD (l.map D.int) = some l := fun l => by
    induction l with
    | nil => rfl
    | cons a l ih => rw [List.map_cons, intsD, ih]; rfl
  unfold gSum lstD
  dsimp only
  rw [h]
  simp only [Option.bind_some]
  rw [e]
  rfl
theorem all_at {S : Store} {k : Nat} {bs : List Bool} (h : S[k]? = some (.lst (bs.map D.bl))) : gAll (.ref k) S = some (.bl (bs.all fun b => b), S) := by
  have e : ∀ l : List Bool, blsD (l.map D.bl) = some l := fun l => by
    induction l with
    | nil => rfl
    | cons a l ih => rw [List.map_cons, blsD, ih]; rfl
  unfold gAll lstD
  dsimp only
  rw [h]
  simp only [Option.bind_some]
  rw [e]
  rfl
theorem tuple_at {S : Store} {k : Nat} {ds : List D} (h : S[k]? = some (.lst ds)) : gTuple (.ref k) S = some (.tup ds, S) := by
  unfold gTuple itemsD
  dsimp only
  rw [h]
  rfl
theorem app_at {S : Store} {k : Nat} {ds : List D} {y : D} (h : S[k]? = some (.lst ds)) (hz : ds.length < sizeLine) : gApp (.ref k) [y] S = some (.non, S.set k (.lst (ds ++ [y]))) := by
  unfold gApp
  dsimp only
  rw [h]
  dsimp only
  rw [if_pos hz]
theorem tyD_lst {S : Store} {k : Nat} {ds : List D} (h : S[k]? = some (.lst ds)) : tyD (.ref k) S = "list" := by
  unfold tyD
  dsimp only
  rw [h]
theorem meth_app {en : En} {S : Store} {mo : ME} {m : MA} {k : Nat} {ds : List D} {y : D} (ho : mo en S = .ok (.ref k) S) (hm : m en S = .ok [y] S) (h : S[k]? = some (.lst ds)) (hz : ds.length < sizeLine) : mMeth "list" gApp mo m en S = .ok .non (S.set k (.lst (ds ++ [y]))) := by
  unfold mMeth
  rw [ho]
  simp only [bind_ok]
  rw [if_pos (tyD_lst h), hm]
  simp only [bind_ok]
  rw [app_at h hz]
  rfl
theorem next_vals {xs : List D} (i : Nat) (S : Store) : nextM (.vals xs) i S = some xs[i]? := rfl
theorem next_zip {xs ys : List D} (h : xs.length = ys.length) (i : Nat) (S : Store) : nextM (.zip2 (.vals xs) (.vals ys)) i S = some (List.zipWith (fun a b => D.tup [a, b]) xs ys)[i]? := by
  rw [List.getElem?_zipWith]
  unfold nextM
  rw [next_vals, next_vals]
  by_cases hi : i < xs.length
  · rw [List.getElem?_eq_getElem hi, List.getElem?_eq_getElem (by omega)]
    rfl
  · rw [List.getElem?_eq_none (by omega), List.getElem?_eq_none (l := ys) (by omega)]
    rfl
theorem next_enu {mi : MI} {xs : List D} {c : Int} (h : ∀ i S, nextM mi i S = some xs[i]?) (i : Nat) (S : Store) : nextM (.enu c mi) i S = some (xs.mapIdx fun k d => D.tup [.int (c + (k : Nat)), d])[i]? := by
  rw [List.getElem?_mapIdx]
  show (nextM mi i S).map _ = _
  rw [h]
  rfl
theorem next_rng {n : Nat} (i : Nat) (S : Store) : nextM (.rng 0 n) i S = some ((List.range n).map fun k => D.int (k : Nat))[i]? := by
  unfold nextM
  by_cases hi : i < n
  · rw [if_pos hi, List.getElem?_map, List.getElem?_range hi]
    simp
  · rw [if_neg hi, List.getElem?_eq_none (by simp; omega)]
theorem Pen.to {p c n m : Nat} {S S' : Store} (P : Pen p c n S) (h1 : S'[p]? = S[p]?) (h2 : S'[c]? = S[c]?) (h : n ≤ m) : Pen p c m S' := by
  obtain ⟨⟨ns, t, ρ, q1, q2, q3, q4, q5, q6, q7, q8⟩, ne⟩ := P
  exact ⟨⟨ns, t, ρ, h1.trans q1, h2.trans q2, q3, q4, q5, by omega, q7, q8⟩, ne⟩
theorem Pen.app {p c n : Nat} {S T : Store} (P : Pen p c n S) : Pen p c n (S ++ T) := by
  obtain ⟨ns, t, ρ, q1, q2, _⟩ := P.ex
  exact P.to ((at_left q1).trans q1.symm) ((at_left q2).trans q2.symm) (Nat.le_refl _)
end Q

namespace Q
open PySem PySem.Spec PyProof.Rows L2
/-! ### the text of the law -/
def topS (i : Nat) : Stmt := PySem.Challenge.pw_jumpsets_k02_distances_and_steps.main.body.getD i (.Pass ⟨0, 0, 0, 0⟩)
abbrev s__law_pen : Stmt := topS 15
abbrev s__law_draw : Stmt := topS 16
abbrev s__law_pick : Stmt := topS 17
abbrev s_is_integer : Stmt := topS 5
abbrev s_is_between : Stmt := topS 6
abbrev s_fits_vector : Stmt := topS 7
abbrev s_need_vector : Stmt := topS 8
abbrev s_steps_of : Stmt := topS 10
abbrev s_steps_towards : Stmt := topS 13
abbrev s__law_far : Stmt := topS 18
abbrev s__law_due : Stmt := topS 19
abbrev s_distance_of : Stmt := topS 9
abbrev s_distance : Stmt := topS 12
abbrev s_law : Stmt := topS 20
theorem bb_abs : bootBuiltins "abs" = some (.builtin "abs") := by decide +kernel
theorem bb_all : bootBuiltins "all" = some (.builtin "all") := by decide +kernel
theorem bb_bool : bootBuiltins "bool" = some (.type "bool") := by decide +kernel
theorem bb_enumerate : bootBuiltins "enumerate" = some (.type "enumerate") := by decide +kernel
theorem bb_int : bootBuiltins "int" = some (.type "int") := by decide +kernel
theorem bb_isinstance : bootBuiltins "isinstance" = some (.builtin "isinstance") := by decide +kernel
theorem bb_len : bootBuiltins "len" = some (.builtin "len") := by decide +kernel
theorem bb_list : bootBuiltins "list" = some (.type "list") := by decide +kernel
theorem bb_max : bootBuiltins "max" = some (.builtin "max") := by decide +kernel
theorem bb_min : bootBuiltins "min" = some (.builtin "min") := by decide +kernel
theorem bb_range : bootBuiltins "range" = some (.type "range") := by decide +kernel
theorem bb_repr : bootBuiltins "repr" = some (.builtin "repr") := by decide +kernel
theorem bb_sum : bootBuiltins "sum" = some (.builtin "sum") := by decide +kernel
theorem bb_tuple : bootBuiltins "tuple" = some (.type "tuple") := by decide +kernel
theorem bb_zip : bootBuiltins "zip" = some (.type "zip") := by decide +kernel
theorem sc__law_pen : FnScope ["_law_script"] ["_law_script"] (defScope s__law_pen) := ⟨rfl, rfl, rfl, by decide +kernel, rfl, by decide +kernel, by decide +kernel⟩
theorem sc__law_draw : FnScope ["_law_pen_here", "_law_size", "_law_digit", "_law_turn", "_law_cell", "_law_primes", "_law_prime", "_law_mixed"] ["_law_pen_here", "_law_size"] (defScope s__law_draw) := ⟨rfl, rfl, rfl, by decide +kernel, rfl, by decide +kernel, by decide +kernel⟩
theorem sc__law_pick : FnScope ["_law_pen_here", "_law_options"] ["_law_pen_here", "_law_options"] (defScope s__law_pick) := ⟨rfl, rfl, rfl, by decide +kernel, rfl, by decide +kernel, by decide +kernel⟩
theorem sc_is_integer : FnScope ["value"] ["value"] (defScope s_is_integer) := ⟨rfl, rfl, rfl, by decide +kernel, rfl, by decide +kernel, by decide +kernel⟩
theorem sc_is_between : FnScope ["value", "low", "high"] ["value", "low", "high"] (defScope s_is_between) := ⟨rfl, rfl, rfl, by decide +kernel, rfl, by decide +kernel, by decide +kernel⟩
theorem sc_fits_vector : FnScope ["value", "entry"] ["value"] (defScope s_fits_vector) := ⟨rfl, rfl, rfl, by decide +kernel, rfl, by decide +kernel, by decide +kernel⟩
theorem sc_need_vector : FnScope ["value", "dimension"] ["value", "dimension"] (defScope s_need_vector) := ⟨rfl, rfl, rfl, by decide +kernel, rfl, by decide +kernel, by decide +kernel⟩
theorem sc_steps_of : FnScope ["x", "y", "found", "index", "one", "other"] ["x", "y"] (defScope s_steps_of) := ⟨rfl, rfl, rfl, by decide +kernel, rfl, by decide +kernel, by decide +kernel⟩
theorem sc_steps_towards : FnScope ["x", "y"] ["x", "y"] (defScope s_steps_towards) := ⟨rfl, rfl, rfl, by decide +kernel, rfl, by decide +kernel, by decide +kernel⟩
theorem sc__law_far : FnScope ["_law_x", "_law_y", "_law_k"] ["_law_x", "_law_y"] (defScope s__law_far) := ⟨rfl, rfl, rfl, by decide +kernel, rfl, by decide +kernel, by decide +kernel⟩
theorem sc__law_due : FnScope ["_law_x", "_law_y", "_law_found", "_law_k", "_law_sign", "_law_there"] ["_law_x", "_law_y"] (defScope s__law_due) := ⟨rfl, rfl, rfl, by decide +kernel, rfl, by decide +kernel, by decide +kernel⟩
theorem sc_distance_of : FnScope ["x", "y", "one", "other"] ["x", "y"] (defScope s_distance_of) := ⟨rfl, rfl, rfl, by decide +kernel, rfl, by decide +kernel, by decide +kernel⟩
theorem sc_distance : FnScope ["x", "y"] ["x", "y"] (defScope s_distance) := ⟨rfl, rfl, rfl, by decide +kernel, rfl, by decide +kernel, by decide +kernel⟩
theorem sc_law : FnScope ["_law_script", "_law_pen_here", "_law_turn", "_law_size", "_law_x", "_law_near", "_law_y", "_law_again", "_law_told", "_law_k", "_law_entry"] ["_law_script"] (defScope s_law) := ⟨rfl, rfl, rfl, by decide +kernel, rfl, by decide +kernel, by decide +kernel⟩
/-! ### the mirror -/
def b__law_pen : MS :=
(mRet (mDisp (mPsC (mC (.str "cells")) (mCall (g1N gList) (mCons (mSl (mVar 0) mNone (mSome (mC (.int 63)))) mNil)) (mPsC (mC (.str "turn")) (mC (.int 0)) (mPsC (mC (.str "rest")) (mC (.int 0)) mPsN)))))
def M__law_pen : MF := mDef 1 b__law_pen
def b__law_draw : MS :=
(mSeq
(mIfS (mB (m2 gGt (m2 gSubs (mVar 0) (mC (.str "rest"))) (mC (.int 0))))
(mSeq
(mSet 2 (m2 gMod (mCall (g1N gInt) (mCons (m2 gSubs (mVar 0) (mC (.str "rest"))) mNil)) (mVar 1)))
(mSeq
(mStore (mVar 0) (mC (.str "rest")) (m2 gDiv (m2 gSubs (mVar 0) (mC (.str "rest"))) (mVar 1)))
(mRet (mVar 2))))
mSkip)
(mSeq
(mSet 3 (m2 gSubs (mVar 0) (mC (.str "turn"))))
(mSeq
(mStore (mVar 0) (mC (.str "turn")) (m2 gAdd (mVar 3) (mC (.int 1))))
(mSeq
(mSet 4 (m2 gAdd (m2 gMul (mC (.int 61)) (mVar 3)) (mC (.int 17))))
(mSeq
(mIfS (mB (m2 gNe (m2 gSubs (mVar 0) (mC (.str "cells"))) (mLst mNil)))
(mSet 4 (m2 gSubs (m2 gSubs (mVar 0) (mC (.str "cells"))) (m2 gMod (mCall (g1N gInt) (mCons (mVar 3) mNil)) (mCall (g1N gLen) (mCons (m2 gSubs (mVar 0) (mC (.str "cells"))) mNil)))))
mSkip)
(mSeq
(mIfS (mAnd (mB (m2 gLt (mVar 3) (mCall (g1N gLen) (mCons (m2 gSubs (mVar 0) (mC (.str "cells"))) mNil)))) (mB (m2 gGe (mCall (g1N gAbs) (mCons (mVar 4) mNil)) (m2 gPow (mC (.int 10)) (mC (.int 18))))))
(mSeq
(mStore (mVar 0) (mC (.str "rest")) (m2 gDiv (m2 gSub (mCall (g1N gAbs) (mCons (mVar 4) mNil)) (m2 gPow (mC (.int 10)) (mC (.int 18)))) (mVar 1)))
(mRet (m2 gMod (m2 gSub (mCall (g1N gAbs) (mCons (mVar 4) mNil)) (m2 gPow (mC (.int 10)) (mC (.int 18)))) (mVar 1))))
mSkip)
(mSeq
(mSet 5 (mLst (mCons (mC (.int 2147483629)) (mCons (mC (.int 2147483647)) (mCons (mC (.int 2147483563)) (mCons (mC (.int 2147483587)) (mCons (mC (.int 2147483579)) mNil)))))))
(mSeq
(mSet 6 (m2 gSubs (mVar 5) (m2 gMod (mCall (g1N gInt) (mCons (mVar 3) mNil)) (mC (.int 5)))))
(mSeq
(mSet 7 (m2 gAdd (m2 gMul (m2 gMod (mCall (g1N gInt) (mCons (mVar 4) mNil)) (mC (.int 4294967291))) (mC (.int 48271))) (m2 gMul (m2 gMul (mC (.int 40503)) (mVar 3)) (mVar 3))))
(mSeq
(mSet 7 (m2 gMod (mCall (g1N gInt) (mCons (m2 gAdd (m2 gAdd (mVar 7) (m2 gMul (mC (.int 69621)) (mVar 3))) (mC (.int 11))) mNil)) (mVar 6)))
(mSeq
(mSet 7 (m2 gMod (mCall (g1N gInt) (mCons (m2 gAdd (m2 gAdd (m2 gAdd (m2 gMul (mVar 7) (mVar 7)) (m2 gMul (mC (.int 16807)) (mVar 7))) (m2 gMul (mC (.int 7)) (mVar 3))) (mC (.int 5))) mNil)) (mC (.int 4294967279))))
(mRet (m2 gMod (mCall (g1N gInt) (mCons (m2 gDiv (m2 gMod (mCall (g1N gInt) (mCons (m2 gMul (mVar 7) (m2 gAdd (mVar 7) (mC (.int 39916801)))) mNil)) (mC (.int 4294967231))) (mC (.int 32))) mNil)) (mVar 1))))))))))))))
def M__law_draw : MF := mDef 8 b__law_draw
def b__law_pick : MS :=
(mRet (m2 gSubs (mVar 1) (mCallF M__law_draw 2 [] (mCons (mVar 0) (mCons (mCall (g1N gLen) (mCons (mVar 1) mNil)) mNil)))))
def M__law_pick : MF := mDef 2 b__law_pick
def b_is_integer : MS :=
(mRet (mAndV (m1 (gIsi .int) (mVar 0)) (mNotV (m1 (gIsi .bool) (mVar 0)))))
def M_is_integer : MF := mDef 1 b_is_integer
def b_is_between : MS :=
(mRet (mAndV (mCallF M_is_integer 1 [] (mCons (mVar 0) mNil)) (mChain gLe gLe (mVar 1) (mVar 0) (mVar 2))))
def M_is_between : MF := mDef 3 b_is_between
def b_fits_vector : MS :=
(mSeq
(mIfS (mOr (mNot (mTr (m1 (gIsi .tup) (mVar 0)))) (mNot (mB (mChain gLe gLe (mC (.int 1)) (mCall (g1N gLen) (mCons (mVar 0) mNil)) (mC (.int 5))))))
(mRet (mC (.bl false)))
mSkip)
(mRet (mCall (g1N gAll) (mCons (mComp (iSeq (mVar 0)) (pName 1) mYes
(mCallF M_is_between 3 [] (mCons (mVar 1) (mCons (m1 gNeg (mC (.int 1000))) (mCons (mC (.int 1000)) mNil)))) [1] bigN) mNil))))
def M_fits_vector : MF := mDef 2 b_fits_vector
def b_need_vector : MS :=
(mIfS (mOr (mNot (mTr (mCallF M_fits_vector 1 [] (mCons (mVar 0) mNil)))) (mAnd (mB (m2 gIsNot (mVar 1) (mC .non))) (mB (m2 gNe (mCall (g1N gLen) (mCons (mVar 0) mNil)) (mVar 1)))))
mNever
mSkip)
def M_need_vector : MF := mDef 2 b_need_vector
def b_steps_of : MS :=
(mSeq
(mSet 2 (mLst mNil))
(mSeq
(mFor (mEnu 0 (mIt (mCons (mVar 0) (mCons (mVar 1) mNil)) zip2D)) (pTup 2 (pCons (pName 3) (pCons (pTup 2 (pCons (pName 4) (pCons (pName 5) pNil))) pNil)))
(mIfS (mB (m2 gNe (mVar 4) (mVar 5)))
(mExpr (mMeth "list" gApp (mVar 2) (mCons (mTup (mCons (mVar 3) (mCons (mIf (mB (m2 gLt (mVar 4) (mVar 5))) (mC (.int 1)) (m1 gNeg (mC (.int 1)))) mNil))) mNil)))
mSkip) bigN)
(mRet (mVar 2))))
def M_steps_of : MF := mDef 6 b_steps_of
def b_steps_towards : MS :=
(mSeq
(mExpr (mCallF M_need_vector 2 [.non] (mCons (mVar 0) mNil)))
(mSeq
(mExpr (mCallF M_need_vector 2 [] (mCons (mVar 1) (mCons (mCall (g1N gLen) (mCons (mVar 0) mNil)) mNil))))
(mRet (mCallF M_steps_of 2 [] (mCons (mVar 0) (mCons (mVar 1) mNil))))))
def M_steps_towards : MF := mDef 2 b_steps_towards
def b__law_far : MS :=
(mRet (mCall (g1N gSum) (mCons (mComp (iRng1M (mCons (mCall (g1N gLen) (mCons (mVar 0) mNil)) mNil)) (pName 2) mYes
(mCall (g2N gMax2) (mCons (m2 gSub (m2 gSubs (mVar 0) (mVar 2)) (m2 gSubs (mVar 1) (mVar 2))) (mCons (m2 gSub (m2 gSubs (mVar 1) (mVar 2)) (m2 gSubs (mVar 0) (mVar 2))) mNil))) [2] bigN) mNil)))
def M__law_far : MF := mDef 3 b__law_far
def b__law_due : MS :=
(mSeq
(mSet 2 (mLst mNil))
(mSeq
(mFor (iRng1M (mCons (mCall (g1N gLen) (mCons (mVar 0) mNil)) mNil)) (pName 3)
(mFor (iSeq (mTup (mCons (m1 gNeg (mC (.int 1))) (mCons (mC (.int 1)) mNil)))) (pName 4)
(mSeq
(mSet 5 (m2 gAdd (m2 gAdd (mSl (mVar 0) mNone (mSome (mVar 3))) (mTup (mCons (m2 gAdd (m2 gSubs (mVar 0) (mVar 3)) (mVar 4)) mNil))) (mSl (mVar 0) (mSome (m2 gAdd (mVar 3) (mC (.int 1)))) mNone)))
(mIfS (mB (m2 gEq (mCallF M__law_far 2 [] (mCons (mVar 5) (mCons (mVar 1) mNil))) (m2 gSub (mCallF M__law_far 2 [] (mCons (mVar 0) (mCons (mVar 1) mNil))) (mC (.int 1)))))
(mExpr (mMeth "list" gApp (mVar 2) (mCons (mTup (mCons (mVar 3) (mCons (mVar 4) mNil))) mNil)))
mSkip)) bigN) bigN)
(mRet (mVar 2))))
def M__law_due : MF := mDef 6 b__law_due
def b_distance_of : MS :=
(mRet (mCall (g1N gSum) (mCons (mComp (mIt (mCons (mVar 0) (mCons (mVar 1) mNil)) zip2D) (pTup 2 (pCons (pName 2) (pCons (pName 3) pNil))) mYes
(mCall (g1N gAbs) (mCons (m2 gSub (mVar 2) (mVar 3)) mNil)) [2, 3] bigN) mNil)))
def M_distance_of : MF := mDef 4 b_distance_of
def b_distance : MS :=
(mSeq
(mExpr (mCallF M_need_vector 2 [.non] (mCons (mVar 0) mNil)))
(mSeq
(mExpr (mCallF M_need_vector 2 [] (mCons (mVar 1) (mCons (mCall (g1N gLen) (mCons (mVar 0) mNil)) mNil))))
(mRet (mCallF M_distance_of 2 [] (mCons (mVar 0) (mCons (mVar 1) mNil))))))
def M_distance : MF := mDef 2 b_distance
def b_law : MS :=
(mSeq
(mSet 1 (mCallF M__law_pen 1 [] (mCons (mVar 0) mNil)))
(mSeq
(mFor (iRng1M (mCons (mC (.int 12)) mNil)) (pName 2)
(mSeq
(mSet 3 (m2 gAdd (mC (.int 1)) (mCallF M__law_draw 2 [] (mCons (mVar 1) (mCons (mC (.int 5)) mNil)))))
(mSeq
(mSet 4 (mCall (g1N gTuple) (mCons (mComp (iRng1M (mCons (mVar 3) mNil)) (pName 9) mYes
(m2 gSub (mCallF M__law_draw 2 [] (mCons (mVar 1) (mCons (mC (.int 2001)) mNil))) (mC (.int 1000))) [9] bigN) mNil)))
(mSeq
(mSet 5 (mLst (mCons (mC (.int 0)) (mCons (mC (.int 0)) (mCons (mC (.int 1)) (mCons (m1 gNeg (mC (.int 1))) (mCons (mC (.int 5)) (mCons (m1 gNeg (mC (.int 1000))) (mCons (mC (.int 1000)) (mCons (m1 gNeg (mC (.int 2000))) (mCons (mC (.int 2000)) mNil)))))))))))
(mSeq
(mSet 6 (mCall (g1N gTuple) (mCons (mComp (iSeq (mVar 4)) (pName 10) mYes
(mCall (g2N gMax2) (mCons (m1 gNeg (mC (.int 1000))) (mCons (mCall (g2N gMin2) (mCons (mC (.int 1000)) (mCons (m2 gAdd (mVar 10) (mCallF M__law_pick 2 [] (mCons (mVar 1) (mCons (mVar 5) mNil)))) mNil))) mNil))) [10] bigN) mNil)))
(mSeq
(mFor (iRng1M (mCons (mC (.int 2)) mNil)) (pName 7)
(mSeq
(mSet 8 (mCallF M_steps_towards 2 [] (mCons (mVar 4) (mCons (mVar 6) mNil))))
(mSeq
(mIfS (mB (m2 gNe (mCall (g1N gRepr) (mCons (mVar 8) mNil)) (mCall (g1N gRepr) (mCons (mCallF M__law_due 2 [] (mCons (mVar 4) (mCons (mVar 6) mNil))) mNil))))
(mRet (mC (.bl false)))
mSkip)
(mExpr (mMeth "list" gApp (mVar 8) (mCons (mTup (mCons (mC (.int 9)) (mCons (mC (.int 9)) mNil))) mNil))))) bigN)
(mIfS (mOr (mB (m2 gNe (mCall (g1N gRepr) (mCons (mCallF M_distance 2 [] (mCons (mVar 4) (mCons (mVar 6) mNil))) mNil)) (mCall (g1N gRepr) (mCons (mCallF M__law_far 2 [] (mCons (mVar 4) (mCons (mVar 6) mNil))) mNil)))) (mOr (mB (m2 gNe (mCallF M_distance 2 [] (mCons (mVar 6) (mCons (mVar 4) mNil))) (mCallF M_distance 2 [] (mCons (mVar 4) (mCons (mVar 6) mNil))))) (mB (m2 gNe (mCallF M_distance 2 [] (mCons (mVar 4) (mCons (mVar 4) mNil))) (mC (.int 0))))))
(mRet (mC (.bl false)))
mSkip)))))) bigN)
(mRet (mC (.bl true)))))
def M_law : MF := mDef 11 b_law
/-! ### what the top has written -/
structure Tx (K : PySem.W.Frag) (mg : Str → Option Value) where
  f__law_pen : Addr
  fd__law_pen : FuncData
  F__law_pen : FunD K "_law_pen" "_law_pen" (defArgs s__law_pen) (defBody s__law_pen) (defScope s__law_pen) [] [] f__law_pen fd__law_pen
  g__law_pen : mg "_law_pen" = some (.ref f__law_pen)
  f__law_draw : Addr
  fd__law_draw : FuncData
  F__law_draw : FunD K "_law_draw" "_law_draw" (defArgs s__law_draw) (defBody s__law_draw) (defScope s__law_draw) [] [] f__law_draw fd__law_draw
  g__law_draw : mg "_law_draw" = some (.ref f__law_draw)
  f__law_pick : Addr
  fd__law_pick : FuncData
  F__law_pick : FunD K "_law_pick" "_law_pick" (defArgs s__law_pick) (defBody s__law_pick) (defScope s__law_pick) [] [] f__law_pick fd__law_pick
  g__law_pick : mg "_law_pick" = some (.ref f__law_pick)
  f_is_integer : Addr
  fd_is_integer : FuncData
  F_is_integer : FunD K "is_integer" "is_integer" (defArgs s_is_integer) (defBody s_is_integer) (defScope s_is_integer) [] [] f_is_integer fd_is_integer
  g_is_integer : mg "is_integer" = some (.ref f_is_integer)
  f_is_between : Addr
  fd_is_between : FuncData
  F_is_between : FunD K "is_between" "is_between" (defArgs s_is_between) (defBody s_is_between) (defScope s_is_between) [] [] f_is_between fd_is_between
  g_is_between : mg "is_between" = some (.ref f_is_between)
  f_fits_vector : Addr
  fd_fits_vector : FuncData
  F_fits_vector : FunD K "fits_vector" "fits_vector" (defArgs s_fits_vector) (defBody s_fits_vector) (defScope s_fits_vector) [] [] f_fits_vector fd_fits_vector
  g_fits_vector : mg "fits_vector" = some (.ref f_fits_vector)
  f_need_vector : Addr
  fd_need_vector : FuncData
  F_need_vector : FunD K "need_vector" "need_vector" (defArgs s_need_vector) (defBody s_need_vector) (defScope s_need_vector) [.non] [] f_need_vector fd_need_vector
  g_need_vector : mg "need_vector" = some (.ref f_need_vector)
  f_steps_of : Addr
  fd_steps_of : FuncData
  F_steps_of : FunD K "steps_of" "steps_of" (defArgs s_steps_of) (defBody s_steps_of) (defScope s_steps_of) [] [] f_steps_of fd_steps_of
  g_steps_of : mg "steps_of" = some (.ref f_steps_of)
  f_steps_towards : Addr
  fd_steps_towards : FuncData
  F_steps_towards : FunD K "steps_towards" "steps_towards" (defArgs s_steps_towards) (defBody s_steps_towards) (defScope s_steps_towards) [] [] f_steps_towards fd_steps_towards
  g_steps_towards : mg "steps_towards" = some (.ref f_steps_towards)
  f__law_far : Addr
  fd__law_far : FuncData
  F__law_far : FunD K "_law_far" "_law_far" (defArgs s__law_far) (defBody s__law_far) (defScope s__law_far) [] [] f__law_far fd__law_far
  g__law_far : mg "_law_far" = some (.ref f__law_far)
  f__law_due : Addr
  fd__law_due : FuncData
  F__law_due : FunD K "_law_due" "_law_due" (defArgs s__law_due) (defBody s__law_due) (defScope s__law_due) [] [] f__law_due fd__law_due
  g__law_due : mg "_law_due" = some (.ref f__law_due)
  f_distance_of : Addr
  fd_distance_of : FuncData
  F_distance_of : FunD K "distance_of" "distance_of" (defArgs s_distance_of) (defBody s_distance_of) (defScope s_distance_of) [] [] f_distance_of fd_distance_of
  g_distance_of : mg "distance_of" = some (.ref f_distance_of)
  f_distance : Addr
  fd_distance : FuncData
  F_distance : FunD K "distance" "distance" (defArgs s_distance) (defBody s_distance) (defScope s_distance) [] [] f_distance fd_distance
  g_distance : mg "distance" = some (.ref f_distance)
  f_law : Addr
  fd_law : FuncData
  F_law : FunD K "law" "law" (defArgs s_law) (defBody s_law) (defScope s_law) [] [] f_law fd_law
  g_law : mg "law" = some (.ref f_law)
  d__law_draw_2 : List Value
  v__law_draw_2 : Vals [] d__law_draw_2
  b__law_draw_2 : Binds K fd__law_draw ["_law_pen_here", "_law_size"] d__law_draw_2
  d__law_due_2 : List Value
  v__law_due_2 : Vals [] d__law_due_2
  b__law_due_2 : Binds K fd__law_due ["_law_x", "_law_y"] d__law_due_2
  d__law_far_2 : List Value
  v__law_far_2 : Vals [] d__law_far_2
  b__law_far_2 : Binds K fd__law_far ["_law_x", "_law_y"] d__law_far_2
  d__law_pen_1 : List Value
  v__law_pen_1 : Vals [] d__law_pen_1
  b__law_pen_1 : Binds K fd__law_pen ["_law_script"] d__law_pen_1
  d__law_pick_2 : List Value
  v__law_pick_2 : Vals [] d__law_pick_2
  b__law_pick_2 : Binds K fd__law_pick ["_law_pen_here", "_law_options"] d__law_pick_2
  d_distance_2 : List Value
  v_distance_2 : Vals [] d_distance_2
  b_distance_2 : Binds K fd_distance ["x", "y"] d_distance_2
  d_distance_of_2 : List Value
  v_distance_of_2 : Vals [] d_distance_of_2
  b_distance_of_2 : Binds K fd_distance_of ["x", "y"] d_distance_of_2
  d_fits_vector_1 : List Value
  v_fits_vector_1 : Vals [] d_fits_vector_1
  b_fits_vector_1 : Binds K fd_fits_vector ["value"] d_fits_vector_1
  d_is_between_3 : List Value
  v_is_between_3 : Vals [] d_is_between_3
  b_is_between_3 : Binds K fd_is_between ["value", "low", "high"] d_is_between_3
  d_is_integer_1 : List Value
  v_is_integer_1 : Vals [] d_is_integer_1
  b_is_integer_1 : Binds K fd_is_integer ["value"] d_is_integer_1
  d_need_vector_1 : List Value
  v_need_vector_1 : Vals [.non] d_need_vector_1
  b_need_vector_1 : Binds K fd_need_vector ["value", "dimension"] d_need_vector_1
  d_need_vector_2 : List Value
  v_need_vector_2 : Vals [] d_need_vector_2
  b_need_vector_2 : Binds K fd_need_vector ["value", "dimension"] d_need_vector_2
  d_steps_of_2 : List Value
  v_steps_of_2 : Vals [] d_steps_of_2
  b_steps_of_2 : Binds K fd_steps_of ["x", "y"] d_steps_of_2
  d_steps_towards_2 : List Value
  v_steps_towards_2 : Vals [] d_steps_towards_2
  b_steps_towards_2 : Binds K fd_steps_towards ["x", "y"] d_steps_towards_2
  b_law : ∀ (s : Shared) (u : Value), BindsTo s fd_law ⟨[u], []⟩ [("_law_script", u)]
  t_MAX_DIMENSION : Tok
  c_MAX_DIMENSION : mg "MAX_DIMENSION" = some (.int 5 t_MAX_DIMENSION)
  t_MAX_ENTRY : Tok
  c_MAX_ENTRY : mg "MAX_ENTRY" = some (.int 1000 t_MAX_ENTRY)
  n_abs : mg "abs" = none
  n_all : mg "all" = none
  n_bool : mg "bool" = none
  n_enumerate : mg "enumerate" = none
  n_int : mg "int" = none
  n_isinstance : mg "isinstance" = none
  n_len : mg "len" = none
  n_list : mg "list" = none
  n_max : mg "max" = none
  n_min : mg "min" = none
  n_range : mg "range" = none
  n_repr : mg "repr" = none
  n_sum : mg "sum" = none
  n_tuple : mg "tuple" = none
  n_zip : mg "zip" = none
section
variable {P : Program} {w : World} {K : PySem.W.Frag} {mg : Str → Option Value} {base : Heap}
theorem fn__law_pen (T : Tx K mg) : FnM P w K mg base 1 T.f__law_pen T.fd__law_pen ["_law_script"] M__law_pen := by
  have nd := sc__law_pen.nd
  refine fnM_of (N := ["_law_script"]) (m := b__law_pen) T.F__law_pen sc__law_pen fun cd A outer s H E g own => ?_
  exact
(s_one (s_ret (e_disp (ks := [_, _, _]) (ps_c e_str (e_callT c_list.call (by show _ = _; kernel_rfl) T.n_list bb_list (a_cons (e_slice (e_var (i := 0) (by rfl) (by exact .inl (by kernel_rfl))) p_none (p_some e_int)) a_nil)) (ps_c e_str e_int (ps_c e_str e_int ps_n))))))
theorem fn__law_draw (T : Tx K mg) : FnM P w K mg base 1 T.f__law_draw T.fd__law_draw ["_law_pen_here", "_law_size"] M__law_draw := by
  have nd := sc__law_draw.nd
  refine fnM_of (N := ["_law_pen_here", "_law_size", "_law_digit", "_law_turn", "_law_cell", "_law_primes", "_law_prime", "_law_mixed"]) (m := b__law_draw) T.F__law_draw sc__law_draw fun cd A outer s H E g own => ?_
  exact
(s_cons
(s_if (t_cmp o_gt (e_sub g (e_var (i := 0) (by rfl) (by exact .inl (by kernel_rfl))) e_str) e_int (by rfl))
(s_cons
(s_set (i := 2) nd (by rfl) (by exact .inl (by kernel_rfl)) (e_op o_mod (e_callT c_int.call (by show _ = _; kernel_rfl) T.n_int bb_int (a_cons (e_sub g (e_var (i := 0) (by rfl) (by exact .inl (by kernel_rfl))) e_str) a_nil)) (e_var (i := 1) (by rfl) (by exact .inl (by kernel_rfl)))))
(s_cons
(s_store g (e_var (i := 0) (by rfl) (by exact .inl (by kernel_rfl))) e_str (e_op o_div (e_sub g (e_var (i := 0) (by rfl) (by exact .inl (by kernel_rfl))) e_str) (e_var (i := 1) (by rfl) (by exact .inl (by kernel_rfl)))))
(s_one (s_ret (e_var (i := 2) (by rfl) (by exact .inl (by kernel_rfl)))))))
s_nil)
(s_cons
(s_set (i := 3) nd (by rfl) (by exact .inl (by kernel_rfl)) (e_sub g (e_var (i := 0) (by rfl) (by exact .inl (by kernel_rfl))) e_str))
(s_cons
(s_store g (e_var (i := 0) (by rfl) (by exact .inl (by kernel_rfl))) e_str (e_op o_add (e_var (i := 3) (by rfl) (by exact .inl (by kernel_rfl))) e_int))
(s_cons
(s_set (i := 4) nd (by rfl) (by exact .inl (by kernel_rfl)) (e_op o_add (e_op o_mul e_int (e_var (i := 3) (by rfl) (by exact .inl (by kernel_rfl)))) e_int))
(s_cons
(s_if (t_cmp (o_ne g.eq) (e_sub g (e_var (i := 0) (by rfl) (by exact .inl (by kernel_rfl))) e_str) (e_lst a_nil) (by rfl))
(s_one (s_set (i := 4) nd (by rfl) (by exact .inl (by kernel_rfl)) (e_sub g (e_sub g (e_var (i := 0) (by rfl) (by exact .inl (by kernel_rfl))) e_str) (e_op o_mod (e_callT c_int.call (by show _ = _; kernel_rfl) T.n_int bb_int (a_cons (e_var (i := 3) (by rfl) (by exact .inl (by kernel_rfl))) a_nil)) (e_callB c_len.call (by show _ = _; kernel_rfl) T.n_len bb_len (a_cons (e_sub g (e_var (i := 0) (by rfl) (by exact .inl (by kernel_rfl))) e_str) a_nil))))))
s_nil)
(s_cons
(s_if (t_w (w_and (t_cmp o_lt (e_var (i := 3) (by rfl) (by exact .inl (by kernel_rfl))) (e_callB c_len.call (by show _ = _; kernel_rfl) T.n_len bb_len (a_cons (e_sub g (e_var (i := 0) (by rfl) (by exact .inl (by kernel_rfl))) e_str) a_nil)) (by rfl)) (w_and1 (t_cmp o_ge (e_callB c_abs.call (by show _ = _; kernel_rfl) T.n_abs bb_abs (a_cons (e_var (i := 4) (by rfl) (by exact .inl (by kernel_rfl))) a_nil)) (e_op o_pow e_int e_int) (by rfl)))))
(s_cons
(s_store g (e_var (i := 0) (by rfl) (by exact .inl (by kernel_rfl))) e_str (e_op o_div (e_op o_sub (e_callB c_abs.call (by show _ = _; kernel_rfl) T.n_abs bb_abs (a_cons (e_var (i := 4) (by rfl) (by exact .inl (by kernel_rfl))) a_nil)) (e_op o_pow e_int e_int)) (e_var (i := 1) (by rfl) (by exact .inl (by kernel_rfl)))))
(s_one (s_ret (e_op o_mod (e_op o_sub (e_callB c_abs.call (by show _ = _; kernel_rfl) T.n_abs bb_abs (a_cons (e_var (i := 4) (by rfl) (by exact .inl (by kernel_rfl))) a_nil)) (e_op o_pow e_int e_int)) (e_var (i := 1) (by rfl) (by exact .inl (by kernel_rfl)))))))
s_nil)
(s_cons
(s_set (i := 5) nd (by rfl) (by exact .inl (by kernel_rfl)) (e_lst (a_cons e_int (a_cons e_int (a_cons e_int (a_cons e_int (a_cons e_int a_nil)))))))
(s_cons
(s_set (i := 6) nd (by rfl) (by exact .inl (by kernel_rfl)) (e_sub g (e_var (i := 5) (by rfl) (by exact .inl (by kernel_rfl))) (e_op o_mod (e_callT c_int.call (by show _ = _; kernel_rfl) T.n_int bb_int (a_cons (e_var (i := 3) (by rfl) (by exact .inl (by kernel_rfl))) a_nil)) e_int)))
(s_cons
(s_set (i := 7) nd (by rfl) (by exact .inl (by kernel_rfl)) (e_op o_add (e_op o_mul (e_op o_mod (e_callT c_int.call (by show _ = _; kernel_rfl) T.n_int bb_int (a_cons (e_var (i := 4) (by rfl) (by exact .inl (by kernel_rfl))) a_nil)) e_int) e_int) (e_op o_mul (e_op o_mul e_int (e_var (i := 3) (by rfl) (by exact .inl (by kernel_rfl)))) (e_var (i := 3) (by rfl) (by exact .inl (by kernel_rfl))))))
(s_cons
(s_set (i := 7) nd (by rfl) (by exact .inl (by kernel_rfl)) (e_op o_mod (e_callT c_int.call (by show _ = _; kernel_rfl) T.n_int bb_int (a_cons (e_op o_add (e_op o_add (e_var (i := 7) (by rfl) (by exact .inl (by kernel_rfl))) (e_op o_mul e_int (e_var (i := 3) (by rfl) (by exact .inl (by kernel_rfl))))) e_int) a_nil)) (e_var (i := 6) (by rfl) (by exact .inl (by kernel_rfl)))))
(s_cons
(s_set (i := 7) nd (by rfl) (by exact .inl (by kernel_rfl)) (e_op o_mod (e_callT c_int.call (by show _ = _; kernel_rfl) T.n_int bb_int (a_cons (e_op o_add (e_op o_add (e_op o_add (e_op o_mul (e_var (i := 7) (by rfl) (by exact .inl (by kernel_rfl))) (e_var (i := 7) (by rfl) (by exact .inl (by kernel_rfl)))) (e_op o_mul e_int (e_var (i := 7) (by rfl) (by exact .inl (by kernel_rfl))))) (e_op o_mul e_int (e_var (i := 3) (by rfl) (by exact .inl (by kernel_rfl))))) e_int) a_nil)) e_int))
(s_one (s_ret (e_op o_mod (e_callT c_int.call (by show _ = _; kernel_rfl) T.n_int bb_int (a_cons (e_op o_div (e_op o_mod (e_callT c_int.call (by show _ = _; kernel_rfl) T.n_int bb_int (a_cons (e_op o_mul (e_var (i := 7) (by rfl) (by exact .inl (by kernel_rfl))) (e_op o_add (e_var (i := 7) (by rfl) (by exact .inl (by kernel_rfl))) e_int)) a_nil)) e_int) e_int) a_nil)) (e_var (i := 1) (by rfl) (by exact .inl (by kernel_rfl)))))))))))))))))
theorem fn__law_pick (T : Tx K mg) : FnM P w K mg base 2 T.f__law_pick T.fd__law_pick ["_law_pen_here", "_law_options"] M__law_pick := by
  have nd := sc__law_pick.nd
  refine fnM_of (N := ["_law_pen_here", "_law_options"]) (m := b__law_pick) T.F__law_pick sc__law_pick fun cd A outer s H E g own => ?_
  exact
(s_one (s_ret (e_sub g (e_var (i := 1) (by rfl) (by exact .inl (by kernel_rfl))) (e_call (dds := []) ((fn__law_draw T).mono (by decide)) g (by show _ = _; kernel_rfl) T.g__law_draw T.F__law_draw.kp T.b__law_draw_2 T.v__law_draw_2 (fun _ _ => rfl) (a_cons (e_var (i := 0) (by rfl) (by exact .inl (by kernel_rfl))) (a_cons (e_callB c_len.call (by show _ = _; kernel_rfl) T.n_len bb_len (a_cons (e_var (i := 1) (by rfl) (by exact .inl (by kernel_rfl))) a_nil)) a_nil))))))
theorem fn_is_integer (T : Tx K mg) : FnM P w K mg base 1 T.f_is_integer T.fd_is_integer ["value"] M_is_integer := by
  have nd := sc_is_integer.nd
  refine fnM_of (N := ["value"]) (m := b_is_integer) T.F_is_integer sc_is_integer fun cd A outer s H E g own => ?_
  exact
(s_one (s_ret (e_and (e_isi .int (by show _ = _; kernel_rfl) T.n_isinstance bb_isinstance (by show _ = _; kernel_rfl) T.n_int bb_int (e_var (i := 0) (by rfl) (by exact .inl (by kernel_rfl)))) (e_one (e_not (e_isi .bool (by show _ = _; kernel_rfl) T.n_isinstance bb_isinstance (by show _ = _; kernel_rfl) T.n_bool bb_bool (e_var (i := 0) (by rfl) (by exact .inl (by kernel_rfl)))))))))
theorem fn_is_between (T : Tx K mg) : FnM P w K mg base 2 T.f_is_between T.fd_is_between ["value", "low", "high"] M_is_between := by
  have nd := sc_is_between.nd
  refine fnM_of (N := ["value", "low", "high"]) (m := b_is_between) T.F_is_between sc_is_between fun cd A outer s H E g own => ?_
  exact
(s_one (s_ret (e_and (e_call (dds := []) ((fn_is_integer T).mono (by decide)) g (by show _ = _; kernel_rfl) T.g_is_integer T.F_is_integer.kp T.b_is_integer_1 T.v_is_integer_1 (fun _ _ => rfl) (a_cons (e_var (i := 0) (by rfl) (by exact .inl (by kernel_rfl))) a_nil)) (e_one (e_chain o_le o_le (e_var (i := 1) (by rfl) (by exact .inl (by kernel_rfl))) (e_var (i := 0) (by rfl) (by exact .inl (by kernel_rfl))) (e_var (i := 2) (by rfl) (by exact .inl (by kernel_rfl))))))))
theorem fn_fits_vector (T : Tx K mg) : FnM P w K mg base 3 T.f_fits_vector T.fd_fits_vector ["value"] M_fits_vector := by
  have nd := sc_fits_vector.nd
  refine fnM_of (N := ["value", "entry"]) (m := b_fits_vector) T.F_fits_vector sc_fits_vector fun cd A outer s H E g own => ?_
  exact
(s_cons
(s_if (t_w (w_or (t_not (t_tru (e_isi .tup (by show _ = _; kernel_rfl) T.n_isinstance bb_isinstance (by show _ = _; kernel_rfl) T.n_tuple bb_tuple (e_var (i := 0) (by rfl) (by exact .inl (by kernel_rfl)))))) (w_or1 (t_not (t_chain o_le o_le e_int (e_callB c_len.call (by show _ = _; kernel_rfl) T.n_len bb_len (a_cons (e_var (i := 0) (by rfl) (by exact .inl (by kernel_rfl))) a_nil)) (e_glob (d := .int 5) (v := .int 5) (by show _ = _; kernel_rfl) T.c_MAX_DIMENSION ⟨_, rfl⟩ (fun _ _ => rfl)))))))
(s_one (s_ret e_bl))
s_nil)
(s_one (s_ret (e_callB (c_all g).call (by show _ = _; kernel_rfl) T.n_all bb_all (a_cons (e_comp (ow := [("entry", 1)]) bigN rfl nd (i_seq (e_var (i := 0) (by rfl) (by exact .inl (by kernel_rfl)))) (blkOk_by (by kernel_rfl)) (fun _ _ _ _ _ => (g_name (i := 1) nd (by rfl) (by exact .inl (by kernel_rfl)) (hf := by exact .inr (by kernel_rfl)))) (fun _ _ _ _ _ => f_nil) (fun _ _ _ _ _ => (e_call (dds := []) ((fn_is_between T).mono (by decide)) (Gd.blk g) (by show _ = _; kernel_rfl) T.g_is_between T.F_is_between.kp T.b_is_between_3 T.v_is_between_3 (fun _ _ => rfl) (a_cons (e_var (i := 1) (by rfl) (by exact .inl (by kernel_rfl))) (a_cons (e_un o_neg (e_glob (d := .int 1000) (v := .int 1000) (by show _ = _; kernel_rfl) T.c_MAX_ENTRY ⟨_, rfl⟩ (fun _ _ => rfl))) (a_cons (e_glob (d := .int 1000) (v := .int 1000) (by show _ = _; kernel_rfl) T.c_MAX_ENTRY ⟨_, rfl⟩ (fun _ _ => rfl)) a_nil)))))) a_nil)))))
theorem fn_need_vector (T : Tx K mg) : FnM P w K mg base 4 T.f_need_vector T.fd_need_vector ["value", "dimension"] M_need_vector := by
  have nd := sc_need_vector.nd
  refine fnM_of (N := ["value", "dimension"]) (m := b_need_vector) T.F_need_vector sc_need_vector fun cd A outer s H E g own => ?_
  exact
(s_one (s_if (t_w (w_or (t_not (t_tru (e_call (dds := []) ((fn_fits_vector T).mono (by decide)) g (by show _ = _; kernel_rfl) T.g_fits_vector T.F_fits_vector.kp T.b_fits_vector_1 T.v_fits_vector_1 (fun _ _ => rfl) (a_cons (e_var (i := 0) (by rfl) (by exact .inl (by kernel_rfl))) a_nil)))) (w_or1 (t_w (w_and (t_cmp o_isnot (e_var (i := 1) (by rfl) (by exact .inl (by kernel_rfl))) e_non (by rfl)) (w_and1 (t_cmp (o_ne g.eq) (e_callB c_len.call (by show _ = _; kernel_rfl) T.n_len bb_len (a_cons (e_var (i := 0) (by rfl) (by exact .inl (by kernel_rfl))) a_nil)) (e_var (i := 1) (by rfl) (by exact .inl (by kernel_rfl))) (by rfl))))))))
(s_one s_never)
s_nil))
theorem fn_steps_of (T : Tx K mg) : FnM P w K mg base 1 T.f_steps_of T.fd_steps_of ["x", "y"] M_steps_of := by
  have nd := sc_steps_of.nd
  refine fnM_of (N := ["x", "y", "found", "index", "one", "other"]) (m := b_steps_of) T.F_steps_of sc_steps_of fun cd A outer s H E g own => ?_
  exact
(s_cons
(s_set (i := 2) nd (by rfl) (by exact .inl (by kernel_rfl)) (e_lst a_nil))
(s_cons
(s_for (own := [3, 4, 5]) bigN own rfl (i_enumz (by show _ = _; kernel_rfl) T.n_enumerate (z_zip2 (by show _ = _; kernel_rfl) T.n_zip (a_cons (e_var (i := 0) (by rfl) (by exact .inl (by kernel_rfl))) (a_cons (e_var (i := 1) (by rfl) (by exact .inl (by kernel_rfl))) a_nil)))) (g_tup rfl (gs_cons (g_name (i := 3) nd (by rfl) (by exact .inl (by kernel_rfl))) (gs_cons (g_tup rfl (gs_cons (g_name (i := 4) nd (by rfl) (by exact .inl (by kernel_rfl))) (gs_cons (g_name (i := 5) nd (by rfl) (by exact .inl (by kernel_rfl))) gs_nil))) gs_nil)))
(s_one (s_if (t_cmp (o_ne g.eq) (e_var (i := 4) (by rfl) (by exact .inl (by kernel_rfl))) (e_var (i := 5) (by rfl) (by exact .inl (by kernel_rfl))) (by rfl))
(s_one (s_expr (e_meth m_append PySem.F.plainAttrs_list PySem.F.slot_list_append PySem.F.type_list_append (e_var (i := 2) (by rfl) (by exact .inl (by kernel_rfl))) (a_cons (e_tup (a_cons (e_var (i := 3) (by rfl) (by exact .inl (by kernel_rfl))) (a_cons (e_if (t_cmp o_lt (e_var (i := 4) (by rfl) (by exact .inl (by kernel_rfl))) (e_var (i := 5) (by rfl) (by exact .inl (by kernel_rfl))) (by rfl)) e_int (e_un o_neg e_int)) a_nil))) a_nil))))
s_nil)))
(s_one (s_ret (e_var (i := 2) (by rfl) (by exact .inl (by kernel_rfl)))))))
theorem fn_steps_towards (T : Tx K mg) : FnM P w K mg base 5 T.f_steps_towards T.fd_steps_towards ["x", "y"] M_steps_towards := by
  have nd := sc_steps_towards.nd
  refine fnM_of (N := ["x", "y"]) (m := b_steps_towards) T.F_steps_towards sc_steps_towards fun cd A outer s H E g own => ?_
  exact
(s_cons
(s_expr (e_call (dds := [.non]) ((fn_need_vector T).mono (by decide)) g (by show _ = _; kernel_rfl) T.g_need_vector T.F_need_vector.kp T.b_need_vector_1 T.v_need_vector_1 (fun _ _ => ⟨_, _, rfl, rfl, rfl⟩) (a_cons (e_var (i := 0) (by rfl) (by exact .inl (by kernel_rfl))) a_nil)))
(s_cons
(s_expr (e_call (dds := []) ((fn_need_vector T).mono (by decide)) g (by show _ = _; kernel_rfl) T.g_need_vector T.F_need_vector.kp T.b_need_vector_2 T.v_need_vector_2 (fun _ _ => rfl) (a_cons (e_var (i := 1) (by rfl) (by exact .inl (by kernel_rfl))) (a_cons (e_callB c_len.call (by show _ = _; kernel_rfl) T.n_len bb_len (a_cons (e_var (i := 0) (by rfl) (by exact .inl (by kernel_rfl))) a_nil)) a_nil))))
(s_one (s_ret (e_call (dds := []) ((fn_steps_of T).mono (by decide)) g (by show _ = _; kernel_rfl) T.g_steps_of T.F_steps_of.kp T.b_steps_of_2 T.v_steps_of_2 (fun _ _ => rfl) (a_cons (e_var (i := 0) (by rfl) (by exact .inl (by kernel_rfl))) (a_cons (e_var (i := 1) (by rfl) (by exact .inl (by kernel_rfl))) a_nil)))))))
theorem fn__law_far (T : Tx K mg) : FnM P w K mg base 1 T.f__law_far T.fd__law_far ["_law_x", "_law_y"] M__law_far := by
  have nd := sc__law_far.nd
  refine fnM_of (N := ["_law_x", "_law_y", "_law_k"]) (m := b__law_far) T.F__law_far sc__law_far fun cd A outer s H E g own => ?_
  exact
(s_one (s_ret (e_callB (c_sum g).call (by show _ = _; kernel_rfl) T.n_sum bb_sum (a_cons (e_comp (ow := [("_law_k", 2)]) bigN rfl nd (i_rng1 (by show _ = _; kernel_rfl) T.n_range (a_cons (e_callB c_len.call (by show _ = _; kernel_rfl) T.n_len bb_len (a_cons (e_var (i := 0) (by rfl) (by exact .inr (.inl (by kernel_rfl)))) a_nil)) a_nil)) (blkOk_by (by kernel_rfl)) (fun _ _ _ _ _ => (g_name (i := 2) nd (by rfl) (by exact .inl (by kernel_rfl)) (hf := by exact .inr (by kernel_rfl)))) (fun _ _ _ _ _ => f_nil) (fun _ _ _ _ _ => (e_callB (c_max2 (Gd.blk g)).call (by show _ = _; kernel_rfl) T.n_max bb_max (a_cons (e_op o_sub (e_sub (Gd.blk g) (e_var (i := 0) (by rfl) (by exact .inr (.inl (by kernel_rfl)))) (e_var (i := 2) (by rfl) (by exact .inl (by kernel_rfl)))) (e_sub (Gd.blk g) (e_var (i := 1) (by rfl) (by exact .inr (.inl (by kernel_rfl)))) (e_var (i := 2) (by rfl) (by exact .inl (by kernel_rfl))))) (a_cons (e_op o_sub (e_sub (Gd.blk g) (e_var (i := 1) (by rfl) (by exact .inr (.inl (by kernel_rfl)))) (e_var (i := 2) (by rfl) (by exact .inl (by kernel_rfl)))) (e_sub (Gd.blk g) (e_var (i := 0) (by rfl) (by exact .inr (.inl (by kernel_rfl)))) (e_var (i := 2) (by rfl) (by exact .inl (by kernel_rfl))))) a_nil))))) a_nil))))
theorem fn__law_due (T : Tx K mg) : FnM P w K mg base 2 T.f__law_due T.fd__law_due ["_law_x", "_law_y"] M__law_due := by
  have nd := sc__law_due.nd
  refine fnM_of (N := ["_law_x", "_law_y", "_law_found", "_law_k", "_law_sign", "_law_there"]) (m := b__law_due) T.F__law_due sc__law_due fun cd A outer s H E g own => ?_
  exact
(s_cons
(s_set (i := 2) nd (by rfl) (by exact .inl (by kernel_rfl)) (e_lst a_nil))
(s_cons
(s_for (own := [3]) bigN own rfl (i_rng1 (by show _ = _; kernel_rfl) T.n_range (a_cons (e_callB c_len.call (by show _ = _; kernel_rfl) T.n_len bb_len (a_cons (e_var (i := 0) (by rfl) (by exact .inl (by kernel_rfl))) a_nil)) a_nil)) (g_name (i := 3) nd (by rfl) (by exact .inl (by kernel_rfl)))
(s_one (s_for (own := [4]) bigN own rfl (i_seq (e_tup (a_cons (e_un o_neg e_int) (a_cons e_int a_nil)))) (g_name (i := 4) nd (by rfl) (by exact .inl (by kernel_rfl)))
(s_cons
(s_set (i := 5) nd (by rfl) (by exact .inl (by kernel_rfl)) (e_op o_add (e_op o_add (e_slice (e_var (i := 0) (by rfl) (by exact .inl (by kernel_rfl))) p_none (p_some (e_var (i := 3) (by rfl) (by exact .inl (by kernel_rfl))))) (e_tup (a_cons (e_op o_add (e_sub g (e_var (i := 0) (by rfl) (by exact .inl (by kernel_rfl))) (e_var (i := 3) (by rfl) (by exact .inl (by kernel_rfl)))) (e_var (i := 4) (by rfl) (by exact .inl (by kernel_rfl)))) a_nil))) (e_slice (e_var (i := 0) (by rfl) (by exact .inl (by kernel_rfl))) (p_some (e_op o_add (e_var (i := 3) (by rfl) (by exact .inl (by kernel_rfl))) e_int)) p_none)))
(s_one (s_if (t_cmp (o_eq g.eq) (e_call (dds := []) ((fn__law_far T).mono (by decide)) g (by show _ = _; kernel_rfl) T.g__law_far T.F__law_far.kp T.b__law_far_2 T.v__law_far_2 (fun _ _ => rfl) (a_cons (e_var (i := 5) (by rfl) (by exact .inl (by kernel_rfl))) (a_cons (e_var (i := 1) (by rfl) (by exact .inl (by kernel_rfl))) a_nil))) (e_op o_sub (e_call (dds := []) ((fn__law_far T).mono (by decide)) g (by show _ = _; kernel_rfl) T.g__law_far T.F__law_far.kp T.b__law_far_2 T.v__law_far_2 (fun _ _ => rfl) (a_cons (e_var (i := 0) (by rfl) (by exact .inl (by kernel_rfl))) (a_cons (e_var (i := 1) (by rfl) (by exact .inl (by kernel_rfl))) a_nil))) e_int) (by rfl))
(s_one (s_expr (e_meth m_append PySem.F.plainAttrs_list PySem.F.slot_list_append PySem.F.type_list_append (e_var (i := 2) (by rfl) (by exact .inl (by kernel_rfl))) (a_cons (e_tup (a_cons (e_var (i := 3) (by rfl) (by exact .inl (by kernel_rfl))) (a_cons (e_var (i := 4) (by rfl) (by exact .inl (by kernel_rfl))) a_nil))) a_nil))))
s_nil))))))
(s_one (s_ret (e_var (i := 2) (by rfl) (by exact .inl (by kernel_rfl)))))))
theorem fn_distance_of (T : Tx K mg) : FnM P w K mg base 1 T.f_distance_of T.fd_distance_of ["x", "y"] M_distance_of := by
  have nd := sc_distance_of.nd
  refine fnM_of (N := ["x", "y", "one", "other"]) (m := b_distance_of) T.F_distance_of sc_distance_of fun cd A outer s H E g own => ?_
  exact
(s_one (s_ret (e_callB (c_sum g).call (by show _ = _; kernel_rfl) T.n_sum bb_sum (a_cons (e_comp (ow := [("one", 2), ("other", 3)]) bigN rfl nd (i_of_z (z_zip2 (by show _ = _; kernel_rfl) T.n_zip (a_cons (e_var (i := 0) (by rfl) (by exact .inl (by kernel_rfl))) (a_cons (e_var (i := 1) (by rfl) (by exact .inl (by kernel_rfl))) a_nil)))) (blkOk_by (by kernel_rfl)) (fun _ _ _ _ _ => (g_tup rfl (gs_cons (g_name (i := 2) nd (by rfl) (by exact .inl (by kernel_rfl)) (hf := by exact .inr (by kernel_rfl))) (gs_cons (g_name (i := 3) nd (by rfl) (by exact .inl (by kernel_rfl)) (hf := by exact .inr (by kernel_rfl))) gs_nil)))) (fun _ _ _ _ _ => f_nil) (fun _ _ _ _ _ => (e_callB c_abs.call (by show _ = _; kernel_rfl) T.n_abs bb_abs (a_cons (e_op o_sub (e_var (i := 2) (by rfl) (by exact .inl (by kernel_rfl))) (e_var (i := 3) (by rfl) (by exact .inl (by kernel_rfl)))) a_nil)))) a_nil))))
theorem fn_distance (T : Tx K mg) : FnM P w K mg base 5 T.f_distance T.fd_distance ["x", "y"] M_distance := by
  have nd := sc_distance.nd
  refine fnM_of (N := ["x", "y"]) (m := b_distance) T.F_distance sc_distance fun cd A outer s H E g own => ?_
  exact
(s_cons
(s_expr (e_call (dds := [.non]) ((fn_need_vector T).mono (by decide)) g (by show _ = _; kernel_rfl) T.g_need_vector T.F_need_vector.kp T.b_need_vector_1 T.v_need_vector_1 (fun _ _ => ⟨_, _, rfl, rfl, rfl⟩) (a_cons (e_var (i := 0) (by rfl) (by exact .inl (by kernel_rfl))) a_nil)))
(s_cons
(s_expr (e_call (dds := []) ((fn_need_vector T).mono (by decide)) g (by show _ = _; kernel_rfl) T.g_need_vector T.F_need_vector.kp T.b_need_vector_2 T.v_need_vector_2 (fun _ _ => rfl) (a_cons (e_var (i := 1) (by rfl) (by exact .inl (by kernel_rfl))) (a_cons (e_callB c_len.call (by show _ = _; kernel_rfl) T.n_len bb_len (a_cons (e_var (i := 0) (by rfl) (by exact .inl (by kernel_rfl))) a_nil)) a_nil))))
(s_one (s_ret (e_call (dds := []) ((fn_distance_of T).mono (by decide)) g (by show _ = _; kernel_rfl) T.g_distance_of T.F_distance_of.kp T.b_distance_of_2 T.v_distance_of_2 (fun _ _ => rfl) (a_cons (e_var (i := 0) (by rfl) (by exact .inl (by kernel_rfl))) (a_cons (e_var (i := 1) (by rfl) (by exact .inl (by kernel_rfl))) a_nil)))))))
theorem fn_law (T : Tx K mg) : FnM P w K mg base 6 T.f_law T.fd_law ["_law_script"] M_law := by
  have nd := sc_law.nd
  refine fnM_of (N := ["_law_script", "_law_pen_here", "_law_turn", "_law_size", "_law_x", "_law_near", "_law_y", "_law_again", "_law_told", "_law_k", "_law_entry"]) (m := b_law) T.F_law sc_law fun cd A outer s H E g own => ?_
  exact
(s_cons
(s_set (i := 1) nd (by rfl) (by exact .inr (by kernel_rfl)) (e_call (dds := []) ((fn__law_pen T).mono (by decide)) g (by show _ = _; kernel_rfl) T.g__law_pen T.F__law_pen.kp T.b__law_pen_1 T.v__law_pen_1 (fun _ _ => rfl) (a_cons (e_var (i := 0) (by rfl) (by exact .inl (by kernel_rfl))) a_nil)))
(s_cons
(s_for (own := [2]) bigN own rfl (i_rng1 (by show _ = _; kernel_rfl) T.n_range (a_cons e_int a_nil)) (g_name (i := 2) nd (by rfl) (by exact .inl (by kernel_rfl)))
(s_cons
(s_set (i := 3) nd (by rfl) (by exact .inl (by kernel_rfl)) (e_op o_add e_int (e_call (dds := []) ((fn__law_draw T).mono (by decide)) g (by show _ = _; kernel_rfl) T.g__law_draw T.F__law_draw.kp T.b__law_draw_2 T.v__law_draw_2 (fun _ _ => rfl) (a_cons (e_var (i := 1) (by rfl) (by exact .inr (.inl (by kernel_rfl)))) (a_cons e_int a_nil)))))
(s_cons
(s_set (i := 4) nd (by rfl) (by exact .inl (by kernel_rfl)) (e_callT c_tuple.call (by show _ = _; kernel_rfl) T.n_tuple bb_tuple (a_cons (e_comp (ow := [("_law_k", 9)]) bigN rfl nd (i_rng1 (by show _ = _; kernel_rfl) T.n_range (a_cons (e_var (i := 3) (by rfl) (by exact .inl (by kernel_rfl))) a_nil)) (blkOk_by (by kernel_rfl)) (fun _ _ _ _ _ => (g_name (i := 9) nd (by rfl) (by exact .inl (by kernel_rfl)) (hf := by exact .inr (by kernel_rfl)))) (fun _ _ _ _ _ => f_nil) (fun _ _ _ _ _ => (e_op o_sub (e_call (dds := []) ((fn__law_draw T).mono (by decide)) (Gd.blk g) (by show _ = _; kernel_rfl) T.g__law_draw T.F__law_draw.kp T.b__law_draw_2 T.v__law_draw_2 (fun _ _ => rfl) (a_cons (e_var (i := 1) (by rfl) (by exact .inr (.inl (by kernel_rfl)))) (a_cons e_int a_nil))) e_int))) a_nil)))
(s_cons
(s_set (i := 5) nd (by rfl) (by exact .inr (by kernel_rfl)) (e_lst (a_cons e_int (a_cons e_int (a_cons e_int (a_cons (e_un o_neg e_int) (a_cons e_int (a_cons (e_un o_neg e_int) (a_cons e_int (a_cons (e_un o_neg e_int) (a_cons e_int a_nil)))))))))))
(s_cons
(s_set (i := 6) nd (by rfl) (by exact .inl (by kernel_rfl)) (e_callT c_tuple.call (by show _ = _; kernel_rfl) T.n_tuple bb_tuple (a_cons (e_comp (ow := [("_law_entry", 10)]) bigN rfl nd (i_seq (e_var (i := 4) (by rfl) (by exact .inl (by kernel_rfl)))) (blkOk_by (by kernel_rfl)) (fun _ _ _ _ _ => (g_name (i := 10) nd (by rfl) (by exact .inl (by kernel_rfl)) (hf := by exact .inr (by kernel_rfl)))) (fun _ _ _ _ _ => f_nil) (fun _ _ _ _ _ => (e_callB (c_max2 (Gd.blk g)).call (by show _ = _; kernel_rfl) T.n_max bb_max (a_cons (e_un o_neg e_int) (a_cons (e_callB (c_min2 (Gd.blk g)).call (by show _ = _; kernel_rfl) T.n_min bb_min (a_cons e_int (a_cons (e_op o_add (e_var (i := 10) (by rfl) (by exact .inl (by kernel_rfl))) (e_call (dds := []) ((fn__law_pick T).mono (by decide)) (Gd.blk g) (by show _ = _; kernel_rfl) T.g__law_pick T.F__law_pick.kp T.b__law_pick_2 T.v__law_pick_2 (fun _ _ => rfl) (a_cons (e_var (i := 1) (by rfl) (by exact .inr (.inl (by kernel_rfl)))) (a_cons (e_var (i := 5) (by rfl) (by exact .inr (.inl (by kernel_rfl)))) a_nil)))) a_nil))) a_nil))))) a_nil)))
(s_cons
(s_for (own := [7]) bigN own rfl (i_rng1 (by show _ = _; kernel_rfl) T.n_range (a_cons e_int a_nil)) (g_name (i := 7) nd (by rfl) (by exact .inl (by kernel_rfl)))
(s_cons
(s_set (i := 8) nd (by rfl) (by exact .inl (by kernel_rfl)) (e_call (dds := []) ((fn_steps_towards T).mono (by decide)) g (by show _ = _; kernel_rfl) T.g_steps_towards T.F_steps_towards.kp T.b_steps_towards_2 T.v_steps_towards_2 (fun _ _ => rfl) (a_cons (e_var (i := 4) (by rfl) (by exact .inl (by kernel_rfl))) (a_cons (e_var (i := 6) (by rfl) (by exact .inl (by kernel_rfl))) a_nil))))
(s_cons
(s_if (t_cmp (o_ne g.eq) (e_callB (c_repr g).call (by show _ = _; kernel_rfl) T.n_repr bb_repr (a_cons (e_var (i := 8) (by rfl) (by exact .inl (by kernel_rfl))) a_nil)) (e_callB (c_repr g).call (by show _ = _; kernel_rfl) T.n_repr bb_repr (a_cons (e_call (dds := []) ((fn__law_due T).mono (by decide)) g (by show _ = _; kernel_rfl) T.g__law_due T.F__law_due.kp T.b__law_due_2 T.v__law_due_2 (fun _ _ => rfl) (a_cons (e_var (i := 4) (by rfl) (by exact .inl (by kernel_rfl))) (a_cons (e_var (i := 6) (by rfl) (by exact .inl (by kernel_rfl))) a_nil))) a_nil)) (by rfl))
(s_one (s_ret e_bl))
s_nil)
(s_one (s_expr (e_meth m_append PySem.F.plainAttrs_list PySem.F.slot_list_append PySem.F.type_list_append (e_var (i := 8) (by rfl) (by exact .inl (by kernel_rfl))) (a_cons (e_tup (a_cons e_int (a_cons e_int a_nil))) a_nil)))))))
(s_one (s_if (t_w (w_or (t_cmp (o_ne g.eq) (e_callB (c_repr g).call (by show _ = _; kernel_rfl) T.n_repr bb_repr (a_cons (e_call (dds := []) ((fn_distance T).mono (by decide)) g (by show _ = _; kernel_rfl) T.g_distance T.F_distance.kp T.b_distance_2 T.v_distance_2 (fun _ _ => rfl) (a_cons (e_var (i := 4) (by rfl) (by exact .inl (by kernel_rfl))) (a_cons (e_var (i := 6) (by rfl) (by exact .inl (by kernel_rfl))) a_nil))) a_nil)) (e_callB (c_repr g).call (by show _ = _; kernel_rfl) T.n_repr bb_repr (a_cons (e_call (dds := []) ((fn__law_far T).mono (by decide)) g (by show _ = _; kernel_rfl) T.g__law_far T.F__law_far.kp T.b__law_far_2 T.v__law_far_2 (fun _ _ => rfl) (a_cons (e_var (i := 4) (by rfl) (by exact .inl (by kernel_rfl))) (a_cons (e_var (i := 6) (by rfl) (by exact .inl (by kernel_rfl))) a_nil))) a_nil)) (by rfl)) (w_or (t_cmp (o_ne g.eq) (e_call (dds := []) ((fn_distance T).mono (by decide)) g (by show _ = _; kernel_rfl) T.g_distance T.F_distance.kp T.b_distance_2 T.v_distance_2 (fun _ _ => rfl) (a_cons (e_var (i := 6) (by rfl) (by exact .inl (by kernel_rfl))) (a_cons (e_var (i := 4) (by rfl) (by exact .inl (by kernel_rfl))) a_nil))) (e_call (dds := []) ((fn_distance T).mono (by decide)) g (by show _ = _; kernel_rfl) T.g_distance T.F_distance.kp T.b_distance_2 T.v_distance_2 (fun _ _ => rfl) (a_cons (e_var (i := 4) (by rfl) (by exact .inl (by kernel_rfl))) (a_cons (e_var (i := 6) (by rfl) (by exact .inl (by kernel_rfl))) a_nil))) (by rfl)) (w_or1 (t_cmp (o_ne g.eq) (e_call (dds := []) ((fn_distance T).mono (by decide)) g (by show _ = _; kernel_rfl) T.g_distance T.F_distance.kp T.b_distance_2 T.v_distance_2 (fun _ _ => rfl) (a_cons (e_var (i := 4) (by rfl) (by exact .inl (by kernel_rfl))) (a_cons (e_var (i := 4) (by rfl) (by exact .inl (by kernel_rfl))) a_nil))) e_int (by rfl))))))
(s_one (s_ret e_bl))
s_nil))))))))
(s_one (s_ret e_bl))))
end

end Q

namespace Q
open PySem PySem.Spec PyProof.Rows L2
/-! ### k02, plain -/
abbrev tV (xs : List Int) : D := .tup (xs.map D.int)
structure VOk (xs : List Int) : Prop where
  h1 : 1 ≤ xs.length
  h5 : xs.length ≤ 5
  b : ∀ z ∈ xs, -1000 ≤ z ∧ z ≤ 1000
section
variable {S : Store} {xs ys : List Int} {n : Int}
theorem mCallF_eq {M : MF} {n : Nat} {dds : List D} {m : MA} {en : En} {S S1 : Store} {ds : List D} (h : m en S = .ok ds S1) (hn : (ds ++ dds).length = n) : mCallF M n dds m en S = M (ds ++ dds) S1 := by
  unfold mCallF
  rw [h]
  simp only [bind_ok]
  rw [if_pos hn]
theorem isint (i : Int) : M_is_integer [.int i] S = .ok (.bl true) S := rfl
theorem betw {i a b : Int} (h1 : a ≤ i) (h2 : i ≤ b) : M_is_between [.int i, .int a, .int b] S = .ok (.bl true) S := by
  unfold M_is_between mDef b_is_between
  rw [mRet_eq]
  have e1 : mCallF M_is_integer 1 [] (mCons (mVar 0) mNil) (startE 3 [.int i, .int a, .int b]) S = .ok (.bl true) S := rfl
  have e2 : mChain gLe gLe (mVar 1) (mVar 0) (mVar 2) (startE 3 [.int i, .int a, .int b]) S = .ok (.bl true) S := by
    simp [mChain, mVar, startE, h1, h2]
  unfold mAndV
  rw [e1]
  simp only [bind_ok, truD_bl]
  rw [e2]
  rfl
theorem len_tup {l : List D} : gLen (.tup l) S = some (.int l.length, S) := rfl
theorem fits (h : VOk xs) : ∃ T, M_fits_vector [tV xs] S = .ok (.bl true) (S ++ T) := by
  have hz : (List.replicate xs.length (D.bl true)) = (List.replicate xs.length true).map D.bl := by rw [List.map_replicate]
  obtain ⟨T, e⟩ := comp_pure (m := iSeq (mVar 0)) (mi := .vals (xs.map D.int)) (xs := xs.map D.int) (zs := List.replicate xs.length (D.bl true)) (g := pName 1) (me := mCallF M_is_between 3 [] (mCons (mVar 1) (mCons (m1 gNeg (mC (.int 1000))) (mCons (mC (.int 1000)) mNil)))) (own := [1]) (N := bigN) (en := startE 2 [tV xs]) (S := S) (S1 := S)
    rfl (fun i S => rfl) (by simp) (by have h5 := h.h5; rw [List.length_map]; unfold bigN; omega) (by have h5 := h.h5; rw [List.length_map]; have hs : 5 < sizeLine := (by decide); omega) (fun i d z hd hz => by
      rw [List.getElem?_map] at hd
      obtain ⟨x, hx, rfl⟩ := Option.map_eq_some_iff.mp hd
      have hm := List.mem_of_getElem? hz
      have hzz : z = .bl true := (List.mem_replicate.mp hm).2
      subst hzz
      have hb := h.b x (List.mem_of_getElem? hx)
      refine ⟨[(1, .int x)], fun _ => rfl, fun T => ⟨[], ?_⟩⟩
      refine (mCallF_eq (ds := [.int x, .int (-1000), .int 1000]) (S1 := S ++ T) (by simp [startE, setsE, wipeD, mVar]) (by rfl)).trans ?_
      rw [List.append_nil (S ++ T)]
      exact betw hb.1 hb.2)
  have hall : gAll (.ref S.length) (S ++ (.lst (List.replicate xs.length (D.bl true)) :: T)) = some (.bl true, S ++ (.lst (List.replicate xs.length (D.bl true)) :: T)) := by
    rw [all_at (bs := List.replicate xs.length true) (by rw [← hz]; exact at_mid)]
    simp
  have h1 := h.h1
  have h5 := h.h5
  refine ⟨.lst (List.replicate xs.length (D.bl true)) :: T, ?_⟩
  have hc : mOr (mNot (mTr (m1 (gIsi .tup) (mVar 0)))) (mNot (mB (mChain gLe gLe (mC (.int 1)) (mCall (g1N gLen) (mCons (mVar 0) mNil)) (mC (.int 5))))) (startE 2 [tV xs]) S = .ok false S := by
    rw [mOr_f (S1 := S) rfl]
    have a1 : decide ((1 : Int) ≤ (xs.length : Nat)) = true := decide_eq_true (by omega)
    have a2 : decide (((xs.length : Nat) : Int) ≤ 5) = true := decide_eq_true (by omega)
    simp only [mNot_eq, mB_eq, mChain, mC_eq, mCall_eq, mCons_eq, mNil_eq, bind_ok, mVar, startE, List.map_cons, List.map_nil, List.cons_append, List.getElem?_cons_zero, g1N_eq, len_tup, ofOpt_some, gLe_int, List.length_map, a1, a2, boolD_bl, asB_some, Bool.not_true]
  show endM ((mIfS _ _ mSkip (startE 2 [tV xs]) S).seq _) = _
  rw [mIfS_f hc]
  show endM (mRet _ (startE 2 [tV xs]) S) = _
  rw [mRet_eq, mCall_eq, mCons_eq, e]
  simp only [bind_ok, mNil_eq, g1N_eq]
  rw [hall]
  rfl

theorem need1 (h : VOk xs) : ∃ T, M_need_vector [tV xs, .non] S = .ok .non (S ++ T) := by
  obtain ⟨T, e⟩ := fits (S := S) h
  refine ⟨T, ?_⟩
  have hc : mOr (mNot (mTr (mCallF M_fits_vector 1 [] (mCons (mVar 0) mNil)))) (mAnd (mB (m2 gIsNot (mVar 1) (mC .non))) (mB (m2 gNe (mCall (g1N gLen) (mCons (mVar 0) mNil)) (mVar 1)))) (startE 2 [tV xs, .non]) S = .ok false (S ++ T) := by
    rw [mOr_f (S1 := S ++ T)]
    · rfl
    · have e1 : mCallF M_fits_vector 1 [] (mCons (mVar 0) mNil) (startE 2 [tV xs, .non]) S = .ok (.bl true) (S ++ T) := (mCallF_eq (ds := [tV xs]) (S1 := S) rfl (by rfl)).trans e
      rw [mNot_eq, mTr_eq, e1]
      rfl
  show endM (mIfS _ _ mSkip (startE 2 [tV xs, .non]) S) = _
  rw [mIfS_f hc]
  rfl
theorem gNe_int {i : Int} : gNe (.int i) (.int i) S = some (.bl false, S) := by
  have : eqP (.int i) (.int i) S = some true := by
    show eqPD (.int i) (.int i) S = _
    unfold eqPD
    show (if SeqAt.shaped (.int i) = true ∧ SeqAt.shaped (.int i) = true then some (PyData.eqv (.int i) (.int i)) else none) = _
    rw [if_pos ⟨rfl, rfl⟩]
    simp [PyData.eqv]
  unfold gNe
  rw [this]
  rfl
theorem need2 (h : VOk xs) (hn : n = (xs.length : Int)) : ∃ T, M_need_vector [tV xs, .int n] S = .ok .non (S ++ T) := by
  obtain ⟨T, e⟩ := fits (S := S) h
  refine ⟨T, ?_⟩
  have hc : mOr (mNot (mTr (mCallF M_fits_vector 1 [] (mCons (mVar 0) mNil)))) (mAnd (mB (m2 gIsNot (mVar 1) (mC .non))) (mB (m2 gNe (mCall (g1N gLen) (mCons (mVar 0) mNil)) (mVar 1)))) (startE 2 [tV xs, .int n]) S = .ok false (S ++ T) := by
    rw [mOr_f (S1 := S ++ T)]
    · rw [mAnd_t (S1 := S ++ T) rfl]
      have : mCall (g1N gLen) (mCons (mVar 0) mNil) (startE 2 [tV xs, .int n]) (S ++ T) = .ok (.int n) (S ++ T) := by
        show ofOpt (gLen (tV xs) (S ++ T)) = _
        rw [len_tup, List.length_map, hn]
        rfl
      rw [mB_eq, m2_eq, this]
      show ((ofOpt (gNe (.int n) (.int n) (S ++ T))).bind _) = _
      rw [gNe_int]
      rfl
    · have e1 : mCallF M_fits_vector 1 [] (mCons (mVar 0) mNil) (startE 2 [tV xs, .int n]) S = .ok (.bl true) (S ++ T) := (mCallF_eq (ds := [tV xs]) (S1 := S) rfl (by rfl)).trans e
      rw [mNot_eq, mTr_eq, e1]
      rfl
  show endM (mIfS _ _ mSkip (startE 2 [tV xs, .int n]) S) = _
  rw [mIfS_f hc]
  rfl
/-! ### distances -/
def dist (xs ys : List Int) : Int := (List.zipWith (fun a b => ((a - b).natAbs : Int)) xs ys).sum
theorem distance_of_ok (hl : xs.length = ys.length) (h5 : xs.length ≤ 5) : ∃ T, M_distance_of [tV xs, tV ys] S = .ok (.int (dist xs ys)) (S ++ T) := by
  have hlen : (List.zipWith (fun a b => D.tup [a, b]) (xs.map D.int) (ys.map D.int)).length = xs.length := by simp [hl]
  obtain ⟨T, e⟩ := comp_pure (m := mIt (mCons (mVar 0) (mCons (mVar 1) mNil)) zip2D) (mi := .zip2 (.vals (xs.map D.int)) (.vals (ys.map D.int))) (xs := List.zipWith (fun a b => D.tup [a, b]) (xs.map D.int) (ys.map D.int)) (zs := (List.zipWith (fun a b => ((a - b).natAbs : Int)) xs ys).map D.int)
    (g := pTup 2 (pCons (pName 2) (pCons (pName 3) pNil))) (me := mCall (g1N gAbs) (mCons (m2 gSub (mVar 2) (mVar 3)) mNil)) (own := [2, 3]) (N := bigN) (en := startE 4 [tV xs, tV ys]) (S := S) (S1 := S)
    rfl (next_zip (by simp [hl])) (by simp [hl]) (by rw [hlen]; unfold bigN; omega) (by rw [hlen]; have hs : 5 < sizeLine := (by decide); omega) (fun i d z hd hz => by
      rw [List.getElem?_zipWith, List.getElem?_map, List.getElem?_map] at hd
      rw [List.getElem?_map, List.getElem?_zipWith] at hz
      cases hx : xs[i]? with
      | none => rw [hx] at hd; simp at hd
      | some x =>
        cases hy : ys[i]? with
        | none => rw [hx, hy] at hd; simp at hd
        | some y =>
          rw [hx, hy] at hd hz
          simp at hd hz
          subst hd; subst hz
          refine ⟨[(2, .int x), (3, .int y)], fun _ => rfl, fun T => ⟨[], ?_⟩⟩
          rw [List.append_nil]
          simp [setsE, wipeD, startE, mVar, absI])
  refine ⟨.lst ((List.zipWith (fun a b => ((a - b).natAbs : Int)) xs ys).map D.int) :: T, ?_⟩
  show endM (mRet (mCall (g1N gSum) (mCons (mComp _ _ _ _ _ _) mNil)) (startE 4 [tV xs, tV ys]) S) = _
  rw [mRet_eq, mCall_eq, mCons_eq, e]
  simp only [bind_ok, mNil_eq, g1N_eq]
  rw [sum_at at_mid]
  rfl
theorem distance_ok (hx : VOk xs) (hy : VOk ys) (hl : xs.length = ys.length) : ∃ T, M_distance [tV xs, tV ys] S = .ok (.int (dist xs ys)) (S ++ T) := by
  obtain ⟨T1, e1⟩ := need1 (S := S) hx
  obtain ⟨T2, e2⟩ := need2 (S := S ++ T1) (n := (xs.length : Int)) hy (by rw [hl])
  obtain ⟨T3, e3⟩ := distance_of_ok (S := S ++ T1 ++ T2) hl hx.h5
  refine ⟨T1 ++ T2 ++ T3, ?_⟩
  have a1 : mCallF M_need_vector 2 [.non] (mCons (mVar 0) mNil) (startE 2 [tV xs, tV ys]) S = .ok .non (S ++ T1) := (mCallF_eq (ds := [tV xs]) (S1 := S) rfl (by rfl)).trans e1
  have q2 : mCons (mVar 1) (mCons (mCall (g1N gLen) (mCons (mVar 0) mNil)) mNil) (startE 2 [tV xs, tV ys]) (S ++ T1) = .ok [tV ys, .int xs.length] (S ++ T1) := by
    simp [mVar, startE, len_tup]
  have a2 : mCallF M_need_vector 2 [] (mCons (mVar 1) (mCons (mCall (g1N gLen) (mCons (mVar 0) mNil)) mNil)) (startE 2 [tV xs, tV ys]) (S ++ T1) = .ok .non (S ++ T1 ++ T2) := (mCallF_eq (ds := [tV ys, .int xs.length]) (S1 := S ++ T1) q2 (by rfl)).trans e2
  have a3 : mCallF M_distance_of 2 [] (mCons (mVar 0) (mCons (mVar 1) mNil)) (startE 2 [tV xs, tV ys]) (S ++ T1 ++ T2) = .ok (.int (dist xs ys)) (S ++ T1 ++ T2 ++ T3) := (mCallF_eq (ds := [tV xs, tV ys]) (S1 := S ++ T1 ++ T2) rfl (by rfl)).trans e3
  show endM (mSeq (mExpr _) (mSeq (mExpr _) (mRet _)) (startE 2 [tV xs, tV ys]) S) = _
  simp only [mSeq_eq, mExpr_eq, mRet_eq, a1, stm_ok, seq_nx, a2, a3, endM_rt]
  rw [List.append_assoc, List.append_assoc, List.append_assoc]

end
end Q

namespace Q
open PySem PySem.Spec PyProof.Rows L2
section
variable {S : Store} {xs ys : List Int} {n : Int}
theorem mFor_ok {m : MIt} {g : Pat} {mb : MS} {N : Nat} {en : En} {S S1 : Store} {mi : MI} (hm : m en S = .ok mi S1) : mFor m g mb N en S = forL mi g mb N 0 en S1 := by
  unfold mFor
  rw [hm]
  rfl
/-! ### steps -/
def stepAt (xs ys : List Int) (k : Nat) : List D := if xs.getD k 0 = ys.getD k 0 then [] else [.tup [.int k, .int (if xs.getD k 0 < ys.getD k 0 then 1 else -1)]]
def stepsF (xs ys : List Int) : Nat → List D
  | 0 => []
  | k + 1 => stepsF xs ys k ++ stepAt xs ys k
theorem stepsF_len (xs ys : List Int) : ∀ k, (stepsF xs ys k).length ≤ k
  | 0 => Nat.le_refl _
  | k + 1 => by
    have := stepsF_len xs ys k
    show (stepsF xs ys k ++ stepAt xs ys k).length ≤ k + 1
    rw [List.length_append]
    have : (stepAt xs ys k).length ≤ 1 := by unfold stepAt; split <;> simp
    omega
theorem bl_ne {i j : Int} : gNe (.int i) (.int j) S = some (.bl (!decide (i = j)), S) := by
  have : eqP (.int i) (.int j) S = some (decide (i = j)) := by
    show eqPD (.int i) (.int j) S = _
    unfold eqPD
    show (if SeqAt.shaped (.int i) = true ∧ SeqAt.shaped (.int j) = true then some (PyData.eqv (.int i) (.int j)) else none) = _
    rw [if_pos ⟨rfl, rfl⟩]
    rfl
  unfold gNe
  rw [this]
  rfl
theorem bl_eq {i j : Int} : gEq (.int i) (.int j) S = some (.bl (decide (i = j)), S) := by
  have : eqP (.int i) (.int j) S = some (decide (i = j)) := by
    show eqPD (.int i) (.int j) S = _
    unfold eqPD
    show (if SeqAt.shaped (.int i) = true ∧ SeqAt.shaped (.int j) = true then some (PyData.eqv (.int i) (.int j)) else none) = _
    rw [if_pos ⟨rfl, rfl⟩]
    rfl
  unfold gEq
  rw [this]
  rfl
theorem small5 {n : Nat} (h : n ≤ 5) : n < sizeLine := by
  have hs : 5 < sizeLine := (by decide)
  omega
theorem steps_of_ok (hl : xs.length = ys.length) (h5 : xs.length ≤ 5) : ∃ T, M_steps_of [tV xs, tV ys] S = .ok (.ref S.length) (S ++ .lst (stepsF xs ys xs.length) :: T) := by
  have hlen : ((List.zipWith (fun a b => D.tup [a, b]) (xs.map D.int) (ys.map D.int)).mapIdx fun k d => D.tup [.int (0 + (k : Nat)), d]).length = xs.length := by simp [hl]
  obtain ⟨en', S', e, q1, T, q2⟩ := forL_vals (mi := .enu 0 (.zip2 (.vals (xs.map D.int)) (.vals (ys.map D.int)))) (N := bigN) (g := pTup 2 (pCons (pName 3) (pCons (pTup 2 (pCons (pName 4) (pCons (pName 5) pNil))) pNil)))
    (mb := mIfS (mB (m2 gNe (mVar 4) (mVar 5))) (mExpr (mMeth "list" gApp (mVar 2) (mCons (mTup (mCons (mVar 3) (mCons (mIf (mB (m2 gLt (mVar 4) (mVar 5))) (mC (.int 1)) (m1 gNeg (mC (.int 1)))) mNil))) mNil))) mSkip)
    (next_enu (next_zip (by simp [hl]))) (fun i en S' => (∃ x3 x4 x5, en = [some (tV xs), some (tV ys), some (.ref S.length), x3, x4, x5]) ∧ ∃ T, S' = S ++ .lst (stepsF xs ys i) :: T)
    (fun i d en S' hd ⟨⟨x3, x4, x5, he⟩, T, hS⟩ => by
      rw [List.getElem?_mapIdx, List.getElem?_zipWith, List.getElem?_map, List.getElem?_map] at hd
      cases hx : xs[i]? with
      | none => rw [hx] at hd; simp at hd
      | some x =>
        cases hy : ys[i]? with
        | none => rw [hx, hy] at hd; simp at hd
        | some y =>
          rw [hx, hy] at hd
          simp at hd
          subst hd; subst he; subst hS
          have gx : xs.getD i 0 = x := by rw [List.getD_eq_getElem?_getD, hx]; rfl
          have gy : ys.getD i 0 = y := by rw [List.getD_eq_getElem?_getD, hy]; rfl
          have hi : i < xs.length := (List.getElem?_eq_some_iff.mp hx).1
          have hF := stepsF_len xs ys i
          refine ⟨[(3, .int i), (4, .int x), (5, .int y)], [some (tV xs), some (tV ys), some (.ref S.length), some (.int i), some (.int x), some (.int y)], ?_⟩
          by_cases hxy : x = y
          · refine ⟨S ++ .lst (stepsF xs ys i) :: T, rfl, .inl ?_, ⟨_, _, _, rfl⟩, T, ?_⟩
            · rw [mIfS_f (S1 := S ++ .lst (stepsF xs ys i) :: T)]
              · rfl
              · simp [setsE, mVar, bl_ne, hxy]
            · have : stepAt xs ys i = [] := by unfold stepAt; rw [gx, gy, if_pos hxy]
              rw [stepsF, this, List.append_nil]
          · refine ⟨(S ++ .lst (stepsF xs ys i) :: T).set S.length (.lst (stepsF xs ys i ++ [.tup [.int i, .int (if x < y then 1 else -1)]])), rfl, .inl ?_, ⟨_, _, _, rfl⟩, T, ?_⟩
            · rw [mIfS_t (S1 := S ++ .lst (stepsF xs ys i) :: T)]
              · rw [mExpr_eq, meth_app (k := S.length) (ds := stepsF xs ys i) (y := .tup [.int i, .int (if x < y then 1 else -1)]) rfl _ at_mid (small5 (by omega))]
                · rfl
                · have h2 : (2 : Nat) ≤ sizeLine := by decide
                  by_cases hlt : x < y
                  · simp [setsE, mVar, mTup, mIf, hlt, h2]
                  · simp [setsE, mVar, mTup, mIf, hlt, h2]
              · simp [setsE, mVar, bl_ne, hxy]
            · have : stepAt xs ys i = [.tup [.int i, .int (if x < y then 1 else -1)]] := by unfold stepAt; rw [gx, gy, if_neg hxy]
              rw [set_mid, stepsF, this]) xs.length 0 [some (tV xs), some (tV ys), some (.ref S.length), none, none, none] (S ++ [.lst []]) (by rw [hlen]; omega) (by unfold bigN; omega) ⟨⟨_, _, _, rfl⟩, [], rfl⟩
  refine ⟨T, ?_⟩
  rw [hlen] at q2
  obtain ⟨x3, x4, x5, he⟩ := q1
  have l1 : mLst mNil (startE 6 [tV xs, tV ys]) S = .ok (.ref S.length) (S ++ [.lst []]) := rfl
  have hs : (startE 6 [tV xs, tV ys]).set 2 (some (.ref S.length)) = [some (tV xs), some (tV ys), some (.ref S.length), none, none, none] := rfl
  have hm : mEnu 0 (mIt (mCons (mVar 0) (mCons (mVar 1) mNil)) zip2D) [some (tV xs), some (tV ys), some (.ref S.length), none, none, none] (S ++ [.lst []]) = .ok (.enu 0 (.zip2 (.vals (xs.map D.int)) (.vals (ys.map D.int)))) (S ++ [.lst []]) := rfl
  have hv : mVar 2 en' S' = .ok (.ref S.length) S' := by rw [he]; rfl
  unfold M_steps_of mDef b_steps_of
  rw [mSeq_eq, mSet_eq, l1]
  simp only [stm_ok, seq_nx]
  rw [hs, mSeq_eq, mFor_ok hm, e]
  simp only [seq_nx]
  rw [mRet_eq, hv, q2]
  simp only [stm_ok, endM_rt]
end
end Q

namespace Q
open PySem PySem.Spec PyProof.Rows L2
section
variable {S : Store} {xs ys : List Int} {n : Int}
theorem towards_ok (hx : VOk xs) (hy : VOk ys) (hl : xs.length = ys.length) : ∃ k T, M_steps_towards [tV xs, tV ys] S = .ok (.ref k) (S ++ T) ∧ (S ++ T)[k]? = some (.lst (stepsF xs ys xs.length)) ∧ S.length ≤ k := by
  obtain ⟨T1, e1⟩ := need1 (S := S) hx
  obtain ⟨T2, e2⟩ := need2 (S := S ++ T1) (n := (xs.length : Int)) hy (by rw [hl])
  obtain ⟨T3, e3⟩ := steps_of_ok (S := S ++ T1 ++ T2) hl hx.h5
  have ea : S ++ T1 ++ T2 ++ .lst (stepsF xs ys xs.length) :: T3 = S ++ (T1 ++ T2 ++ .lst (stepsF xs ys xs.length) :: T3) := by
    rw [List.append_assoc, List.append_assoc, List.append_assoc]
  refine ⟨(S ++ T1 ++ T2).length, T1 ++ T2 ++ .lst (stepsF xs ys xs.length) :: T3, ?_, by rw [← ea]; exact at_mid, by simp⟩
  have a1 : mCallF M_need_vector 2 [.non] (mCons (mVar 0) mNil) (startE 2 [tV xs, tV ys]) S = .ok .non (S ++ T1) := (mCallF_eq (ds := [tV xs]) (S1 := S) rfl (by rfl)).trans e1
  have q2 : mCons (mVar 1) (mCons (mCall (g1N gLen) (mCons (mVar 0) mNil)) mNil) (startE 2 [tV xs, tV ys]) (S ++ T1) = .ok [tV ys, .int xs.length] (S ++ T1) := by
    simp [mVar, startE, len_tup]
  have a2 : mCallF M_need_vector 2 [] (mCons (mVar 1) (mCons (mCall (g1N gLen) (mCons (mVar 0) mNil)) mNil)) (startE 2 [tV xs, tV ys]) (S ++ T1) = .ok .non (S ++ T1 ++ T2) := (mCallF_eq (ds := [tV ys, .int xs.length]) (S1 := S ++ T1) q2 (by rfl)).trans e2
  have a3 : mCallF M_steps_of 2 [] (mCons (mVar 0) (mCons (mVar 1) mNil)) (startE 2 [tV xs, tV ys]) (S ++ T1 ++ T2) = _ := (mCallF_eq (ds := [tV xs, tV ys]) (S1 := S ++ T1 ++ T2) rfl (by rfl)).trans e3
  unfold M_steps_towards mDef b_steps_towards
  simp only [mSeq_eq, mExpr_eq, mRet_eq, a1, stm_ok, seq_nx, a2, a3, endM_rt]
  rw [ea]
theorem itemT {l : List D} {i : Nat} {d : D} (h : l[i]? = some d) : gSubs (.tup l) (.int i) S = some (d, S) := by
  unfold gSubs subD dctD itemD
  dsimp only
  rw [L2.atI_nat h]
  rfl
theorem rng1_of {i : Int} {m : Nat} (h : i = m) (hm : m ≤ 1000) : rng1 [.int i] = some (.rng 0 m) := by
  subst h
  unfold rng1
  dsimp only
  rw [if_pos (by unfold smallI; simp; omega)]
  simp
theorem iRng1_ok {m : MA} {en : En} {S S1 : Store} {i : Int} {k : Nat} (h : m en S = .ok [.int i] S1) (hi : i = k) (hk : k ≤ 1000) : iRng1M m en S = .ok (.rng 0 k) S1 := by
  unfold iRng1M
  rw [h, bind_ok, rng1_of hi hk]
theorem far_ok (hl : xs.length = ys.length) (h5 : xs.length ≤ 5) : ∃ T, M__law_far [tV xs, tV ys] S = .ok (.int (dist xs ys)) (S ++ T) := by
  have hm : iRng1M (mCons (mCall (g1N gLen) (mCons (mVar 0) mNil)) mNil) (startE 3 [tV xs, tV ys]) S = .ok (.rng 0 xs.length) S := by
    have : mCons (mCall (g1N gLen) (mCons (mVar 0) mNil)) mNil (startE 3 [tV xs, tV ys]) S = .ok [.int xs.length] S := by simp [mVar, startE, len_tup]
    exact iRng1_ok this rfl (by omega)
  obtain ⟨T, e⟩ := comp_pure (m := iRng1M (mCons (mCall (g1N gLen) (mCons (mVar 0) mNil)) mNil)) (mi := .rng 0 xs.length) (xs := (List.range xs.length).map fun k => D.int (k : Nat)) (zs := (List.zipWith (fun a b => ((a - b).natAbs : Int)) xs ys).map D.int)
    (g := pName 2) (me := mCall (g2N gMax2) (mCons (m2 gSub (m2 gSubs (mVar 0) (mVar 2)) (m2 gSubs (mVar 1) (mVar 2))) (mCons (m2 gSub (m2 gSubs (mVar 1) (mVar 2)) (m2 gSubs (mVar 0) (mVar 2))) mNil))) (own := [2]) (N := bigN) (en := startE 3 [tV xs, tV ys]) (S := S) (S1 := S)
    hm next_rng (by simp [hl]) (by rw [List.length_map, List.length_range]; unfold bigN; omega) (by rw [List.length_map, List.length_range]; exact small5 h5) (fun i d z hd hz => by
      rw [List.getElem?_map, List.getElem?_zipWith] at hz
      rw [List.getElem?_map] at hd
      obtain ⟨j, hj, rfl⟩ := Option.map_eq_some_iff.mp hd
      have hi : i < xs.length := by have := (List.getElem?_eq_some_iff.mp hj).1; simpa using this
      rw [List.getElem?_range hi] at hj
      cases hj
      cases hx : xs[i]? with
      | none => rw [hx] at hz; simp at hz
      | some x =>
        cases hy : ys[i]? with
        | none => rw [hx, hy] at hz; simp at hz
        | some y =>
          rw [hx, hy] at hz
          simp at hz
          subst hz
          have g1 : ∀ S, gSubs (tV xs) (.int i) S = some (.int x, S) := fun S => itemT (by rw [List.getElem?_map, hx]; rfl)
          have g2 : ∀ S, gSubs (tV ys) (.int i) S = some (.int y, S) := fun S => itemT (by rw [List.getElem?_map, hy]; rfl)
          have mx : ∀ S, gMax2 (.int (x - y)) (.int (y - x)) S = some (.int ((x - y).natAbs : Int), S) := fun S => by
            unfold gMax2
            rw [gI_int, if_pos (show yes2 (x - y) (y - x) = true from rfl)]
            have q : (if y - x > x - y then y - x else x - y) = ((x - y).natAbs : Int) := by split <;> omega
            rw [q]
          refine ⟨[(2, .int i)], fun _ => rfl, fun T => ⟨[], ?_⟩⟩
          rw [List.append_nil (S ++ T)]
          simp [setsE, wipeD, startE, mVar, g1, g2, mx])
  refine ⟨.lst ((List.zipWith (fun a b => ((a - b).natAbs : Int)) xs ys).map D.int) :: T, ?_⟩
  unfold M__law_far mDef b__law_far
  rw [mRet_eq, mCall_eq, mCons_eq, e]
  simp only [bind_ok, mNil_eq, g1N_eq]
  rw [sum_at at_mid]
  rfl
end
end Q

namespace Q
open PySem PySem.Spec PyProof.Rows L2
theorem dist_set : ∀ (xs ys : List Int) (k : Nat) (v x y : Int), xs[k]? = some x → ys[k]? = some y → dist (xs.set k v) ys = dist xs ys - (x - y).natAbs + (v - y).natAbs
  | [], _, _, _, _, _, h, _ => by simp at h
  | _ :: _, [], _, _, _, _, _, h => by simp at h
  | a :: xs, b :: ys, 0, v, x, y, h1, h2 => by
    simp at h1 h2
    subst h1; subst h2
    simp only [dist, List.set_cons_zero, List.zipWith_cons_cons, List.sum_cons]
    omega
  | a :: xs, b :: ys, k + 1, v, x, y, h1, h2 => by
    have ih := dist_set xs ys k v x y (by simpa using h1) (by simpa using h2)
    simp only [dist, List.set_cons_succ, List.zipWith_cons_cons, List.sum_cons] at ih ⊢
    omega
theorem cut_take (l : List D) (k : Nat) (h : k ≤ l.length) : cutD l none (some (k : Int)) = l.take k := by
  unfold cutD
  rw [HT.sIx_none, HT.sIx_nat, Nat.min_eq_left h, Nat.sub_zero, List.drop_zero]
theorem cut_drop (l : List D) (k : Nat) (h : k ≤ l.length) : cutD l (some (k : Int)) none = l.drop k := by
  unfold cutD
  rw [HT.sIx_none, HT.sIx_nat, Nat.min_eq_left h, List.take_of_length_le (by simp)]
section
variable {S : Store} {xs ys : List Int}
def mThere : ME := m2 gAdd (m2 gAdd (mSl (mVar 0) mNone (mSome (mVar 3))) (mTup (mCons (m2 gAdd (m2 gSubs (mVar 0) (mVar 3)) (mVar 4)) mNil))) (mSl (mVar 0) (mSome (m2 gAdd (mVar 3) (mC (.int 1)))) mNone)
theorem there_ok {k : Nat} {x s : Int} {x2 x5 : Option D} (hk : xs[k]? = some x) (h5 : xs.length ≤ 5) : mThere [some (tV xs), some (tV ys), x2, some (.int k), some (.int s), x5] S = .ok (tV (xs.set k (x + s))) S := by
  have hi : k < xs.length := (List.getElem?_eq_some_iff.mp hk).1
  have g1 : gSubs (tV xs) (.int k) S = some (.int x, S) := itemT (by rw [List.getElem?_map, hk]; rfl)
  have c1 : cutP (tV xs) none (some (k : Int)) S = some (.tup ((xs.map D.int).take k), S) := by
    show some (D.tup (cutD _ _ _), S) = _
    rw [cut_take _ _ (by rw [List.length_map]; omega)]
  have c2 : cutP (tV xs) (some ((k : Int) + 1)) none S = some (.tup ((xs.map D.int).drop (k + 1)), S) := by
    show some (D.tup (cutD _ (some ((k : Int) + 1)) _), S) = _
    have : ((k : Int) + 1) = ((k + 1 : Nat) : Int) := by omega
    rw [this, cut_drop _ _ (by rw [List.length_map]; omega)]
  have a1 : gAdd (.tup ((xs.map D.int).take k)) (.tup [.int (x + s)]) S = some (.tup ((xs.map D.int).take k ++ [.int (x + s)]), S) := by
    unfold gAdd
    dsimp only
    rw [if_pos (by rw [List.length_take, List.length_map]; have := small5 h5; simp; omega)]
  have a2 : gAdd (.tup ((xs.map D.int).take k ++ [.int (x + s)])) (.tup ((xs.map D.int).drop (k + 1))) S = some (tV (xs.set k (x + s)), S) := by
    unfold gAdd
    dsimp only
    rw [if_pos (by simp; have := small5 h5; omega)]
    have : (xs.set k (x + s)).map D.int = (xs.map D.int).take k ++ [.int (x + s)] ++ (xs.map D.int).drop (k + 1) := by
      rw [List.map_set, List.set_eq_take_append_cons_drop, if_pos (by rw [List.length_map]; exact hi)]
      simp
    rw [tV, this]
  have h1 : (1 : Nat) ≤ sizeLine := by decide
  simp [mThere, mSl, mVar, mNone, mSome, intD, c1, c2, g1, mTup, h1, a1, a2]
end
end Q

namespace Q
open PySem PySem.Spec PyProof.Rows L2
section
variable {S : Store} {xs ys : List Int}
def mDueIf : MS := mIfS (mB (m2 gEq (mCallF M__law_far 2 [] (mCons (mVar 5) (mCons (mVar 1) mNil))) (m2 gSub (mCallF M__law_far 2 [] (mCons (mVar 0) (mCons (mVar 1) mNil))) (mC (.int 1))))) (mExpr (mMeth "list" gApp (mVar 2) (mCons (mTup (mCons (mVar 3) (mCons (mVar 4) mNil))) mNil))) mSkip
def signAt (k : Nat) (x y s : Int) : List D := if ((x + s - y).natAbs : Int) = (x - y).natAbs - 1 then [.tup [.int k, .int s]] else []
theorem inner_ok {k : Nat} {x y s : Int} {x5 : Option D} {acc : List D} {T : Store} (hx : xs[k]? = some x) (hy : ys[k]? = some y) (hl : xs.length = ys.length) (h5 : xs.length ≤ 5) (ha : acc.length < sizeLine) :
    ∃ T', mSeq (mSet 5 mThere) mDueIf [some (tV xs), some (tV ys), some (.ref S.length), some (.int k), some (.int s), x5] (S ++ .lst acc :: T) = .nx [some (tV xs), some (tV ys), some (.ref S.length), some (.int k), some (.int s), some (tV (xs.set k (x + s)))] (S ++ .lst (acc ++ signAt k x y s) :: T') := by
  obtain ⟨T1, e1⟩ := far_ok (S := S ++ .lst acc :: T) (xs := xs.set k (x + s)) (ys := ys) (by simp [hl]) (by simp [h5])
  obtain ⟨T2, e2⟩ := far_ok (S := S ++ .lst acc :: T ++ T1) (xs := xs) (ys := ys) hl h5
  have hS : S ++ .lst acc :: T ++ T1 ++ T2 = S ++ .lst acc :: (T ++ T1 ++ T2) := by simp
  have d := dist_set xs ys k (x + s) x y hx hy
  let en : En := [some (tV xs), some (tV ys), some (.ref S.length), some (.int k), some (.int s), some (tV (xs.set k (x + s)))]
  have a1 : mCallF M__law_far 2 [] (mCons (mVar 5) (mCons (mVar 1) mNil)) en (S ++ .lst acc :: T) = _ := (mCallF_eq (ds := [tV (xs.set k (x + s)), tV ys]) (S1 := S ++ .lst acc :: T) rfl (by rfl)).trans e1
  have a2 : mCallF M__law_far 2 [] (mCons (mVar 0) (mCons (mVar 1) mNil)) en (S ++ .lst acc :: T ++ T1) = _ := (mCallF_eq (ds := [tV xs, tV ys]) (S1 := S ++ .lst acc :: T ++ T1) rfl (by rfl)).trans e2
  have hs5 : ([some (tV xs), some (tV ys), some (D.ref S.length), some (D.int k), some (D.int s), x5] : En).set 5 (some (tV (xs.set k (x + s)))) = en := rfl
  have test : mB (m2 gEq (mCallF M__law_far 2 [] (mCons (mVar 5) (mCons (mVar 1) mNil))) (m2 gSub (mCallF M__law_far 2 [] (mCons (mVar 0) (mCons (mVar 1) mNil))) (mC (.int 1)))) en (S ++ .lst acc :: T) = .ok (decide (dist (xs.set k (x + s)) ys = dist xs ys - 1)) (S ++ .lst acc :: (T ++ T1 ++ T2)) := by
    have gs : ∀ S, gSub (.int (dist xs ys)) (.int 1) S = some (.int (dist xs ys - 1), S) := fun S => rfl
    rw [mB_eq, m2_eq, a1, bind_ok, m2_eq, a2, bind_ok, mC_eq, bind_ok, gs, ofOpt_some, bind_ok, bl_eq, ofOpt_some, bind_ok, boolD_bl, asB_some, hS]
  rw [mSeq_eq, mSet_eq, there_ok hx h5, stm_ok, seq_nx, hs5]
  unfold mDueIf
  by_cases hg : ((x + s - y).natAbs : Int) = (x - y).natAbs - 1
  · refine ⟨T ++ T1 ++ T2, ?_⟩
    have hd : decide (dist (xs.set k (x + s)) ys = dist xs ys - 1) = true := decide_eq_true (by omega)
    rw [hd] at test
    have h2 : (2 : Nat) ≤ sizeLine := by decide
    have ht : mCons (mTup (mCons (mVar 3) (mCons (mVar 4) mNil))) mNil en (S ++ .lst acc :: (T ++ T1 ++ T2)) = .ok [.tup [.int k, .int s]] (S ++ .lst acc :: (T ++ T1 ++ T2)) := by
      simp [en, mVar, mTup, h2]
    rw [mIfS_t test, mExpr_eq, meth_app (k := S.length) (ds := acc) (y := .tup [.int k, .int s]) rfl ht at_mid ha, stm_ok, set_mid]
    unfold signAt
    rw [if_pos hg]
  · refine ⟨T ++ T1 ++ T2, ?_⟩
    have hd : decide (dist (xs.set k (x + s)) ys = dist xs ys - 1) = false := decide_eq_false (by omega)
    rw [hd] at test
    rw [mIfS_f test]
    unfold signAt
    rw [if_neg hg, List.append_nil]
    rfl
theorem signs_step {k : Nat} {x y : Int} (hx : xs[k]? = some x) (hy : ys[k]? = some y) : signAt k x y (-1) ++ signAt k x y 1 = stepAt xs ys k := by
  have gx : xs.getD k 0 = x := by rw [List.getD_eq_getElem?_getD, hx]; rfl
  have gy : ys.getD k 0 = y := by rw [List.getD_eq_getElem?_getD, hy]; rfl
  unfold stepAt signAt
  rw [gx, gy]
  by_cases h1 : x = y
  · rw [if_pos h1, if_neg (by omega), if_neg (by omega)]; rfl
  · by_cases h2 : x < y
    · rw [if_neg h1, if_pos h2, if_neg (by omega), if_pos (by omega)]; rfl
    · rw [if_neg h1, if_neg h2, if_pos (by omega), if_neg (by omega)]; rfl
theorem sign_len {k : Nat} {x y s : Int} : (signAt k x y s).length ≤ 1 := by unfold signAt; split <;> simp
theorem due_ok (hl : xs.length = ys.length) (h5 : xs.length ≤ 5) : ∃ T, M__law_due [tV xs, tV ys] S = .ok (.ref S.length) (S ++ .lst (stepsF xs ys xs.length) :: T) := by
  have lz : 20 < sizeLine := by decide
  have bz : 20 < bigN := by unfold bigN; omega
  have outer := forL_rng (lo := 0) (n := xs.length) (N := bigN) (g := pName 3) (mb := mFor (iSeq (mTup (mCons (m1 gNeg (mC (.int 1))) (mCons (mC (.int 1)) mNil)))) (pName 4) (mSeq (mSet 5 mThere) mDueIf) bigN)
    (fun i en S' => (∃ x3 x4 x5, en = [some (tV xs), some (tV ys), some (.ref S.length), x3, x4, x5]) ∧ ∃ T, S' = S ++ .lst (stepsF xs ys i) :: T)
    (fun i en S' hi ⟨⟨x3, x4, x5, he⟩, T, hS⟩ => by
      subst he; subst hS
      have hx : xs[i]? = some xs[i] := List.getElem?_eq_getElem hi
      have hy : ys[i]? = some (ys[i]'(by omega)) := List.getElem?_eq_getElem (by omega)
      have hF := stepsF_len xs ys i
      obtain ⟨T1, e1⟩ := inner_ok (S := S) (T := T) (s := -1) (x5 := x5) (acc := stepsF xs ys i) hx hy hl h5 (by omega)
      have hs1 := sign_len (k := i) (x := xs[i]) (y := ys[i]'(by omega)) (s := -1)
      obtain ⟨T2, e2⟩ := inner_ok (S := S) (T := T1) (s := 1) (x5 := some (tV (xs.set i (xs[i] + -1)))) (acc := stepsF xs ys i ++ signAt i xs[i] (ys[i]'(by omega)) (-1)) hx hy hl h5 (by rw [List.length_append]; omega)
      have inner := forL_vals (mi := .vals [.int (-1), .int 1]) (xs := [.int (-1), .int 1]) (N := bigN) (g := pName 4) (mb := mSeq (mSet 5 mThere) mDueIf) (fun i S => rfl)
        (fun j en' S'' => (j = 0 ∧ en' = [some (tV xs), some (tV ys), some (.ref S.length), some (.int (0 + (i : Nat))), x4, x5] ∧ S'' = S ++ .lst (stepsF xs ys i) :: T) ∨ (j = 1 ∧ en' = [some (tV xs), some (tV ys), some (.ref S.length), some (.int (i : Nat)), some (.int (-1)), some (tV (xs.set i (xs[i] + -1)))] ∧ S'' = S ++ .lst (stepsF xs ys i ++ signAt i xs[i] (ys[i]'(by omega)) (-1)) :: T1) ∨
          (j = 2 ∧ en' = [some (tV xs), some (tV ys), some (.ref S.length), some (.int (i : Nat)), some (.int 1), some (tV (xs.set i (xs[i] + 1)))] ∧ S'' = S ++ .lst (stepsF xs ys i ++ signAt i xs[i] (ys[i]'(by omega)) (-1) ++ signAt i xs[i] (ys[i]'(by omega)) 1) :: T2))
        (fun j d en' S'' hd hI => by
          rcases hI with ⟨rfl, rfl, rfl⟩ | ⟨rfl, rfl, rfl⟩ | ⟨rfl, rfl, rfl⟩
          · cases hd
            exact ⟨_, _, _, rfl, .inl (by rw [Int.zero_add]; exact e1), .inr (.inl ⟨rfl, rfl, rfl⟩)⟩
          · cases hd
            exact ⟨_, _, _, rfl, .inl e2, .inr (.inr ⟨rfl, rfl, rfl⟩)⟩
          · simp at hd) 2 0 [some (tV xs), some (tV ys), some (.ref S.length), some (.int (0 + (i : Nat))), x4, x5] (S ++ .lst (stepsF xs ys i) :: T) rfl (by omega) (.inl ⟨rfl, rfl, rfl⟩)
      obtain ⟨en', S', e, hI⟩ := inner
      rcases hI with ⟨h, _⟩ | ⟨h, _⟩ | ⟨_, he', hS'⟩
      · cases h
      · cases h
      · refine ⟨[(3, .int (0 + (i : Nat)))], en', S', rfl, .inl ?_, ⟨_, _, _, he'⟩, T2, ?_⟩
        · rw [← e]
          exact mFor_ok rfl
        · rw [hS', List.append_assoc, signs_step hx hy]
          rfl) xs.length 0 [some (tV xs), some (tV ys), some (.ref S.length), none, none, none] (S ++ [.lst []]) (by omega) (by omega) ⟨⟨_, _, _, rfl⟩, [], rfl⟩
  obtain ⟨en', S', e, ⟨x3, x4, x5, he⟩, T, hS⟩ := outer
  refine ⟨T, ?_⟩
  have l1 : mLst mNil (startE 6 [tV xs, tV ys]) S = .ok (.ref S.length) (S ++ [.lst []]) := rfl
  have hs : (startE 6 [tV xs, tV ys]).set 2 (some (.ref S.length)) = [some (tV xs), some (tV ys), some (.ref S.length), none, none, none] := rfl
  have hm : iRng1M (mCons (mCall (g1N gLen) (mCons (mVar 0) mNil)) mNil) [some (tV xs), some (tV ys), some (.ref S.length), none, none, none] (S ++ [.lst []]) = .ok (.rng 0 xs.length) (S ++ [.lst []]) := by
    have : mCons (mCall (g1N gLen) (mCons (mVar 0) mNil)) mNil [some (tV xs), some (tV ys), some (.ref S.length), none, none, none] (S ++ [.lst []]) = .ok [.int xs.length] (S ++ [.lst []]) := by simp [mVar, len_tup]
    exact iRng1_ok this rfl (by omega)
  have hv : mVar 2 en' S' = .ok (.ref S.length) S' := by rw [he]; rfl
  have hb : b__law_due = mSeq (mSet 2 (mLst mNil)) (mSeq (mFor (iRng1M (mCons (mCall (g1N gLen) (mCons (mVar 0) mNil)) mNil)) (pName 3) (mFor (iSeq (mTup (mCons (m1 gNeg (mC (.int 1))) (mCons (mC (.int 1)) mNil)))) (pName 4) (mSeq (mSet 5 mThere) mDueIf) bigN) bigN) (mRet (mVar 2))) := rfl
  unfold M__law_due mDef
  rw [hb, mSeq_eq, mSet_eq, l1, stm_ok, seq_nx, hs, mSeq_eq, mFor_ok hm, e, seq_nx, mRet_eq, hv, hS, stm_ok, endM_rt]
end
end Q

namespace Q
open PySem PySem.Spec PyProof.Rows L2
/-! ### repr of a list of pairs, of an int -/
def tupD (p : Int × Int) : D := .tup [.int p.1, .int p.2]
def tupPy (p : Int × Int) : PyData := .tuple [.int p.1, .int p.2]
def SmallP (L : List (Int × Int)) : Prop := L.length ≤ 100 ∧ ∀ p ∈ L, p.1.natAbs < 2 ^ 100 ∧ p.2.natAbs < 2 ^ 100
theorem steps_pairs (xs ys : List Int) : ∀ n, n ≤ 5 → ∃ L, stepsF xs ys n = L.map tupD ∧ SmallP L ∧ L.length ≤ n
  | 0, _ => ⟨[], rfl, ⟨by decide, fun _ h => nomatch h⟩, Nat.le_refl _⟩
  | n + 1, h => by
    obtain ⟨L, e, ⟨_, h2⟩, h3⟩ := steps_pairs xs ys n (by omega)
    unfold stepsF stepAt
    split
    · exact ⟨L, by rw [List.append_nil]; exact e, ⟨by omega, h2⟩, by omega⟩
    · refine ⟨L ++ [((n : Int), if xs.getD n 0 < ys.getD n 0 then 1 else -1)], by rw [e, List.map_append]; rfl, ⟨by rw [List.length_append]; simp; omega, fun p hp => ?_⟩, by rw [List.length_append]; simp; omega⟩
      rcases List.mem_append.mp hp with q | q
      · exact h2 p q
      · rw [List.mem_singleton.mp q]
        have : (2 : Nat) ^ 100 > 5 := by decide
        refine ⟨by show (n : Int).natAbs < _; omega, ?_⟩
        show (if _ then (1 : Int) else -1).natAbs < _
        split <;> omega
theorem len_int {i : Int} (h : i.natAbs < 2 ^ 100) : (Str.ofString (toString i)).length ≤ 1921 := by
  have := log2_lt' h
  exact int_text_len_1921 (by omega)
theorem len_tupPy {p : Int × Int} (h : p.1.natAbs < 2 ^ 100 ∧ p.2.natAbs < 2 ^ 100) : (tupPy p).shown.length ≤ 4000 := by
  have e : (tupPy p).shown = ("(" : Str) ++ (Str.ofString (toString p.1) ++ ", " ++ Str.ofString (toString p.2)) ++ (")" : String) := by
    unfold tupPy
    simp only [PyData.shown, PyData.shownAll]
    rfl
  rw [e]
  simp only [strLen_append]
  have h1 := len_int h.1
  have h2 := len_int h.2
  have a : (("(" : String) : Str).length = 1 := rfl
  have b : ((", " : String) : Str).length = 2 := rfl
  have c : ((")" : String) : Str).length = 1 := rfl
  omega
theorem shownAll_map (L : List (Int × Int)) : PyData.shownAll (L.map tupPy) = L.map fun p => (tupPy p).shown := by
  induction L with
  | nil => simp [PyData.shownAll]
  | cons p L ih => simp [PyData.shownAll, ih]
theorem len_listPy {L : List (Int × Int)} (h : SmallP L) : (PyData.list (L.map tupPy)).shown.length ≤ sizeLine := by
  have e : (PyData.list (L.map tupPy)).shown = textFrom 0 "[" (L.map fun p => (tupPy p).shown) ++ ("]" : String) := by
    simp only [PyData.shown]
    rw [shownAll_map]
    rfl
  rw [e, strLen_append]
  have h1 := textFrom_le (L.map fun p => (tupPy p).shown) 0 "["
  have h2 : ∀ M : List (Int × Int), (∀ p ∈ M, p.1.natAbs < 2 ^ 100 ∧ p.2.natAbs < 2 ^ 100) → ((M.map fun p => (tupPy p).shown).map fun t => t.length + 2).sum ≤ M.length * 4002 := fun M hM => by
    induction M with
    | nil => simp
    | cons p M ih =>
      have a := len_tupPy (hM p List.mem_cons_self)
      have b := ih fun q hq => hM q (List.mem_cons_of_mem _ hq)
      simp only [List.map_cons, List.sum_cons, List.length_cons]
      omega
  have h3 := h2 L h.2
  have h4 := h.1
  have a : (("[" : String) : Str).length = 1 := rfl
  have c : (("]" : String) : Str).length = 1 := rfl
  have hs : 1000000 < sizeLine := by decide
  omega
theorem mapM_pairs {f : D → Option PyData} : ∀ L : List (Int × Int), (∀ p ∈ L, f (tupD p) = some (tupPy p)) → (L.map tupD).mapM f = some (L.map tupPy)
  | [], _ => rfl
  | p :: L, h => by
    rw [List.map_cons, List.mapM_cons, h p List.mem_cons_self, mapM_pairs L fun q hq => h q (List.mem_cons_of_mem _ hq)]
    rfl
theorem flags_pairs (L : List (Int × Int)) (h : ∀ p ∈ L, p.1.natAbs < 2 ^ 100 ∧ p.2.natAbs < 2 ^ 100) : PyData.showableAll (L.map tupPy) = true ∧ PyData.depthAll (L.map tupPy) ≤ 1 ∧ PyData.hasDictAll (L.map tupPy) = false := by
  induction L with
  | nil => exact ⟨rfl, by simp [PyData.depthAll], rfl⟩
  | cons p L ih =>
    obtain ⟨i1, i2, i3⟩ := ih fun q hq => h q (List.mem_cons_of_mem _ hq)
    obtain ⟨a, b⟩ := h p List.mem_cons_self
    have l1 := log2_lt' a
    have l2 := log2_lt' b
    have hs : (tupPy p).showable = true := by
      unfold tupPy
      simp [PyData.showable, PyData.showableAll]
      omega
    have hd : (tupPy p).depth = 1 := by unfold tupPy; simp [PyData.depth, PyData.depthAll]
    have hh : (tupPy p).hasDict = false := by unfold tupPy; simp [PyData.hasDict, PyData.hasDictAll]
    refine ⟨by simp [PyData.showableAll, hs, i1], ?_, by simp [PyData.hasDictAll, hh, i3]⟩
    simp only [List.map_cons, PyData.depthAll, hd]
    omega
theorem repr_pairs {S : Store} {k : Nat} {L : List (Int × Int)} (h : S[k]? = some (.lst (L.map tupD))) (hL : SmallP L) : gRepr (.ref k) S = some (.str (PyData.list (L.map tupPy)).shown, S) := by
  have hp : pyD S (.ref k) = some (.list (L.map tupPy)) := by
    unfold pyD toPy
    rw [h]
    show ((L.map tupD).mapM (toPy S 63)).map PyData.list = _
    rw [mapM_pairs L fun p _ => rfl]
    rfl
  obtain ⟨f1, f2, f3⟩ := flags_pairs L hL.2
  unfold gRepr reprP
  rw [hp]
  simp only [Option.bind_some]
  rw [if_pos ⟨by simp [PyData.showable, f1], by simp only [PyData.depth]; omega, by simp [PyData.hasDict, f3], len_listPy hL⟩]
  rfl
theorem repr_int {S : Store} {i : Int} (h : i.natAbs < 2 ^ 100) : gRepr (.int i) S = some (.str (Str.ofString (toString i)), S) := by
  have l1 := log2_lt' h
  have hs : 1000000 < sizeLine := by decide
  have := len_int h
  unfold gRepr reprP
  show ((if (PyData.int i).showable = true ∧ (PyData.int i).depth ≤ 64 ∧ (PyData.int i).hasDict = false ∧ (PyData.int i).shown.length ≤ sizeLine then some (PyData.int i).shown else none).map _) = _
  rw [if_pos ⟨by simp [PyData.showable]; omega, by simp [PyData.depth], by simp [PyData.hasDict], by simp only [PyData.shown]; omega⟩]
  simp [PyData.shown]
theorem ne_str {S : Store} {x : Str} : gNe (.str x) (.str x) S = some (.bl false, S) := by
  unfold gNe eqP
  simp
end Q

namespace Q
open PySem PySem.Spec PyProof.Rows L2
theorem Pen.lt {p c n : Nat} {S : Store} (P : Pen p c n S) : p < S.length ∧ c < S.length := by
  obtain ⟨ns, t, ρ, q1, q2, _⟩ := P.ex
  exact ⟨lt_of_at q1, lt_of_at q2⟩
theorem draw_comp {m : MIt} {mi : MI} {xs : List D} {g : Pat} {me : ME} {own : List Nat} {N : Nat} {en : En} {S S1 : Store} {p c n : Nat} {lo hi : Int} (hm : m en S = .ok mi S1) (hmi : ∀ i S, nextM mi i S = some xs[i]?) (hP : Pen p c n S1) (hN : xs.length < N) (hN2 : xs.length < sizeLine)
    (step : ∀ (i : Nat) (d : D) (S' : Store), xs[i]? = some d → Pen p c (n + i) S' → Grow p S1 S' → ∃ ps r S2, g d S' = some ps ∧ me (setsE (wipeD en own) ps) S' = .ok (.int r) S2 ∧ lo ≤ r ∧ r ≤ hi ∧ Pen p c (n + i + 1) S2 ∧ Grow p S' S2) :
    ∃ (ns : List Int) (S' : Store), mComp m g mYes me own N en S = .ok (.ref S1.length) S' ∧ S'[S1.length]? = some (.lst (ns.map D.int)) ∧ ns.length = xs.length ∧ (∀ z ∈ ns, lo ≤ z ∧ z ≤ hi) ∧ Pen p c (n + xs.length) S' ∧ Grow p S1 S' := by
  obtain ⟨hp, hc⟩ := hP.lt
  have run := compL_run (mi := mi) (n := xs.length) (n0 := S1.length) (g := g) (mt := mYes) (me := me) (en := wipeD en own) (fun i acc S' => ∃ ns : List Int, acc = ns.map D.int ∧ ns.length = i ∧ (∀ z ∈ ns, lo ≤ z ∧ z ≤ hi) ∧ Pen p c (n + i) S' ∧ Grow p S1 S') (fun acc S' _ => by rw [hmi, List.getElem?_eq_none (Nat.le_refl _)]) (fun i acc S' hi ⟨ns, ha, hl, hb, hPi, hG⟩ h0 _ => ?_) xs.length 0 N [] (S1 ++ [.lst []]) (by omega) hN rfl hN2 ⟨[], rfl, rfl, (by intro z hz; cases hz), hP.app, Grow.push⟩ at_mid
  · obtain ⟨acc', S', e, hl, h0, ns, ha, hl2, hb, hP', hG⟩ := run
    subst ha
    refine ⟨ns, S', ?_, h0, hl2, hb, hP', hG⟩
    unfold mComp
    rw [hm]
    exact e
  · obtain ⟨ps, r, S2, e1, e2, q1, q2, P2, G2⟩ := step i xs[i] S' (List.getElem?_eq_getElem hi) hPi hG
    have hn0 : S1.length < S'.length := lt_of_at h0
    have h0' : S2[S1.length]? = some (.lst acc) := by rw [G2.eq _ hn0 (by omega)]; exact h0
    refine ⟨xs[i], ps, .int r, S2, by rw [hmi, List.getElem?_eq_getElem hi], e1, rfl, e2, h0', ns ++ [r], by rw [ha, List.map_append]; rfl, by rw [List.length_append, hl]; rfl, fun z hz => ?_, ?_, ?_⟩
    · rcases List.mem_append.mp hz with h | h
      · exact hb z h
      · rw [List.mem_singleton.mp h]; exact ⟨q1, q2⟩
    · exact P2.to (by rw [List.getElem?_set_ne (by omega)]) (by rw [List.getElem?_set_ne (by omega)]) (by omega)
    · have G3 := hG.trans G2
      exact ⟨by rw [List.length_set]; exact G3.len, fun j hj hne => by rw [List.getElem?_set_ne (by omega)]; exact G3.eq j hj hne⟩
theorem drawM_ok {p c n : Nat} {S : Store} {size : Int} (P : Pen p c n S) (hn : n < 2 ^ 64) (h0 : 0 < size) (h1 : size < 2 ^ 64) :
    ∃ (r : Int) (S' : Store), M__law_draw [.ref p, .int size] S = .ok (.int r) S' ∧ 0 ≤ r ∧ r < size ∧ Pen p c (n + 1) S' ∧ Grow p S S' := draw_ok' P hn h0 h1
theorem pick_ok {p c n q : Nat} {S : Store} {l : List D} (P : Pen p c n S) (hn : n < 2 ^ 64) (hq : S[q]? = some (.lst l)) (hne : q ≠ p) (h0 : 0 < l.length) (h1 : l.length < 1000) :
    ∃ (d : D) (S' : Store), M__law_pick [.ref p, .ref q] S = .ok d S' ∧ d ∈ l ∧ Pen p c (n + 1) S' ∧ Grow p S S' := by
  obtain ⟨r, S', e, r0, r1, P', G⟩ := drawM_ok (size := (l.length : Int)) P hn (by omega) (by omega)
  have hr : r.toNat < l.length := by omega
  have hq' : S'[q]? = some (.lst l) := by rw [G.eq q (lt_of_at hq) hne]; exact hq
  refine ⟨l[r.toNat], S', ?_, List.getElem_mem hr, P', G⟩
  have hm : mCons (mVar 0) (mCons (mCall (g1N gLen) (mCons (mVar 1) mNil)) mNil) (startE 2 [.ref p, .ref q]) S = .ok [.ref p, .int l.length] S := by
    simp [mVar, startE, len_at hq]
  have a1 : mCallF M__law_draw 2 [] (mCons (mVar 0) (mCons (mCall (g1N gLen) (mCons (mVar 1) mNil)) mNil)) (startE 2 [.ref p, .ref q]) S = _ := (mCallF_eq (ds := [.ref p, .int l.length]) (S1 := S) hm (by rfl)).trans e
  have it := item_at (i := r.toNat) hq' (List.getElem?_eq_getElem hr)
  rw [show ((r.toNat : Nat) : Int) = r by omega] at it
  have hv : mVar 1 (startE 2 [.ref p, .ref q]) S = .ok (.ref q) S := rfl
  unfold M__law_pick mDef b__law_pick
  rw [mRet_eq, m2_eq, hv, bind_ok, a1, bind_ok, it, ofOpt_some, stm_ok, endM_rt]
theorem bits_lt {z : Int} (h : Builtin.Int.intBits z ≤ 1048576) : z.natAbs < 2 ^ 1048577 := by
  have h1 : z.natAbs < 2 ^ (z.natAbs.log2 + 1) := Nat.lt_log2_self
  have h2 : z.natAbs.log2 + 1 ≤ 1048577 := by
    unfold Builtin.Int.intBits at h
    split at h
    · rename_i hz
      have : z = 0 := by simpa using hz
      subst this
      show Nat.log2 0 + 1 ≤ _
      rw [Nat.log2_zero]
      omega
    · omega
  exact Nat.lt_of_lt_of_le h1 (Nat.pow_le_pow_right (by omega) h2)
theorem pen_ok {ns : List Int} (hl : ns.length ≤ 63) (hb : ∀ z ∈ ns, Builtin.Int.intBits z ≤ 1048576) : ∃ S', M__law_pen [.kl (ns.map D.int)] [] = .ok (.ref 0) S' ∧ Pen 0 2 0 S' := by
  have hcut : cutD (ns.map D.int) none (some 63) = ns.map D.int := by
    have h := cut_take (ns.map D.int) (min 63 ns.length) (by rw [List.length_map]; omega)
    unfold cutD
    rw [HT.sIx_none, show (63 : Int) = ((63 : Nat) : Int) from rfl, HT.sIx_nat, List.length_map, Nat.sub_zero, List.drop_zero, List.take_of_length_le (by rw [List.length_map]; omega)]
  refine ⟨[.dct (penK 2 0 0), .lst (ns.map D.int), .lst (ns.map D.int)], ?_, ⟨⟨ns, 0, 0, rfl, rfl, hl, fun z hz => bits_lt (hb z hz), by omega, by omega, by omega, Nat.two_pow_pos _⟩, by decide⟩⟩
  have hk : mergeD [] [(.inr "cells", .ref 2), (.inr "turn", .int 0), (.inr "rest", .int 0)] = penK 2 0 0 := by kernel_rfl
  have c1 : cutP (.kl (ns.map D.int)) none (some 63) [.dct []] = some (.ref 1, [.dct [], .lst (ns.map D.int)]) := by
    show some (D.ref 1, [O.dct []] ++ [O.lst (cutD _ _ _)]) = _
    rw [hcut]
    rfl
  have d1 : mDispE 0 [(.str "cells", .ref 2), (.str "turn", .int 0), (.str "rest", .int 0)] [.dct [], .lst (ns.map D.int), .lst (ns.map D.int)] = some (.ref 0, [.dct (penK 2 0 0), .lst (ns.map D.int), .lst (ns.map D.int)]) := by
    show (if 3 ≤ 15 then some (D.ref 0, _) else none) = _
    rw [if_pos (by decide)]
    rw [← hk]
    rfl
  have l1 : mCall (g1N gList) (mCons (mSl (mVar 0) mNone (mSome (mC (.int 63)))) mNil) (startE 1 [.kl (ns.map D.int)]) [.dct []] = .ok (.ref 2) [.dct [], .lst (ns.map D.int), .lst (ns.map D.int)] := by
    have s1 : mSl (mVar 0) mNone (mSome (mC (.int 63))) (startE 1 [.kl (ns.map D.int)]) [.dct []] = .ok (.ref 1) [.dct [], .lst (ns.map D.int)] := by
      show ofOpt (cutP (.kl (ns.map D.int)) none (some 63) [.dct []]) = _
      rw [c1]
      rfl
    rw [mCall_eq, mCons_eq, s1]
    rfl
  unfold M__law_pen mDef b__law_pen
  rw [mRet_eq]
  have : mDisp (mPsC (mC (.str "cells")) (mCall (g1N gList) (mCons (mSl (mVar 0) mNone (mSome (mC (.int 63)))) mNil)) (mPsC (mC (.str "turn")) (mC (.int 0)) (mPsC (mC (.str "rest")) (mC (.int 0)) mPsN))) (startE 1 [.kl (ns.map D.int)]) [] = .ok (.ref 0) [.dct (penK 2 0 0), .lst (ns.map D.int), .lst (ns.map D.int)] := by
    unfold mDisp mPsC
    simp only [mC_eq, bind_ok, List.nil_append]
    rw [l1]
    simp only [bind_ok, mPsN]
    show ofOpt (mDispE 0 [(.str "cells", .ref 2), (.str "turn", .int 0), (.str "rest", .int 0)] [.dct [], .lst (ns.map D.int), .lst (ns.map D.int)]) = _
    rw [d1]
    rfl
  rw [this]
  rfl
end Q

namespace Q
open PySem PySem.Spec PyProof.Rows L2
def mX : ME := mCall (g1N gTuple) (mCons (mComp (iRng1M (mCons (mVar 3) mNil)) (pName 9) mYes (m2 gSub (mCallF M__law_draw 2 [] (mCons (mVar 1) (mCons (mC (.int 2001)) mNil))) (mC (.int 1000))) [9] bigN) mNil)
theorem x_ok {a0 a2 a4 a5 a6 a7 a8 a9 a10 : Option D} {size n : Nat} {S : Store} (hs : size ≤ 5) (P : Pen 0 2 n S) (hn : n < 2 ^ 60) :
    ∃ (xs : List Int) (S' : Store), mX [a0, some (.ref 0), a2, some (.int size), a4, a5, a6, a7, a8, a9, a10] S = .ok (tV xs) S' ∧ xs.length = size ∧ (∀ z ∈ xs, -1000 ≤ z ∧ z ≤ 1000) ∧ Pen 0 2 (n + size) S' ∧ Grow 0 S S' := by
  have hm : iRng1M (mCons (mVar 3) mNil) [a0, some (.ref 0), a2, some (.int size), a4, a5, a6, a7, a8, a9, a10] S = .ok (.rng 0 size) S := iRng1_ok rfl rfl (by omega)
  obtain ⟨ns, S', e, h0, hl, hb, P', G⟩ := draw_comp (mi := .rng 0 size) (xs := (List.range size).map fun k => D.int (k : Nat)) (g := pName 9) (me := m2 gSub (mCallF M__law_draw 2 [] (mCons (mVar 1) (mCons (mC (.int 2001)) mNil))) (mC (.int 1000))) (own := [9]) (N := bigN) (lo := -1000) (hi := 1000) hm next_rng P
    (by rw [List.length_map, List.length_range]; unfold bigN; omega) (by rw [List.length_map, List.length_range]; exact small5 hs) (fun i d S' hd Pi Gi => by
      have hi : i < size := by have := (List.getElem?_eq_some_iff.mp hd).1; simpa using this
      obtain ⟨r, S2, e, r0, r1, P2, G2⟩ := drawM_ok (size := 2001) Pi (by omega) (by decide) (by decide)
      refine ⟨[(9, d)], r - 1000, S2, rfl, ?_, by omega, by omega, P2, G2⟩
      have a1 : mCallF M__law_draw 2 [] (mCons (mVar 1) (mCons (mC (.int 2001)) mNil)) (setsE (wipeD [a0, some (.ref 0), a2, some (.int size), a4, a5, a6, a7, a8, a9, a10] [9]) [(9, d)]) S' = _ := (mCallF_eq (ds := [.ref 0, .int 2001]) (S1 := S') rfl (by rfl)).trans e
      rw [m2_eq, a1, bind_ok, mC_eq, bind_ok]
      rfl)
  refine ⟨ns, S', ?_, by rw [hl]; simp, hb, by simpa using P', G⟩
  unfold mX
  rw [mCall_eq, mCons_eq, e, bind_ok, mNil_eq, bind_ok, bind_ok, g1N_eq, tuple_at h0]
  rfl
def nearL : List D := [.int 0, .int 0, .int 1, .int (-1), .int 5, .int (-1000), .int 1000, .int (-2000), .int 2000]
def mNear : ME := mLst (mCons (mC (.int 0)) (mCons (mC (.int 0)) (mCons (mC (.int 1)) (mCons (m1 gNeg (mC (.int 1))) (mCons (mC (.int 5)) (mCons (m1 gNeg (mC (.int 1000))) (mCons (mC (.int 1000)) (mCons (m1 gNeg (mC (.int 2000))) (mCons (mC (.int 2000)) mNil)))))))))
theorem near_ok {en : En} {S : Store} : mNear en S = .ok (.ref S.length) (S ++ [.lst nearL]) := by
  have h9 : (9 : Nat) ≤ sizeLine := by decide
  unfold mNear mLst
  simp [h9]
  rfl
theorem near_int {d : D} (h : d ∈ nearL) : ∃ i : Int, d = .int i := by
  simp [nearL] at h
  rcases h with h | h | h | h | h | h | h | h <;> exact ⟨_, h⟩
def mY : ME := mCall (g1N gTuple) (mCons (mComp (iSeq (mVar 4)) (pName 10) mYes (mCall (g2N gMax2) (mCons (m1 gNeg (mC (.int 1000))) (mCons (mCall (g2N gMin2) (mCons (mC (.int 1000)) (mCons (m2 gAdd (mVar 10) (mCallF M__law_pick 2 [] (mCons (mVar 1) (mCons (mVar 5) mNil)))) mNil))) mNil))) [10] bigN) mNil)
theorem y_ok {a0 a2 a3 a6 a7 a8 a9 a10 : Option D} {xs : List Int} {n q : Nat} {S : Store} (hs : xs.length ≤ 5) (P : Pen 0 2 n S) (hn : n < 2 ^ 60) (hq : S[q]? = some (.lst nearL)) (hq0 : q ≠ 0) :
    ∃ (ys : List Int) (S' : Store), mY [a0, some (.ref 0), a2, a3, some (tV xs), some (.ref q), a6, a7, a8, a9, a10] S = .ok (tV ys) S' ∧ ys.length = xs.length ∧ (∀ z ∈ ys, -1000 ≤ z ∧ z ≤ 1000) ∧ Pen 0 2 (n + xs.length) S' ∧ Grow 0 S S' := by
  obtain ⟨ns, S', e, h0, hl, hb, P', G⟩ := draw_comp (m := iSeq (mVar 4)) (mi := .vals (xs.map D.int)) (xs := xs.map D.int) (g := pName 10) (me := mCall (g2N gMax2) (mCons (m1 gNeg (mC (.int 1000))) (mCons (mCall (g2N gMin2) (mCons (mC (.int 1000)) (mCons (m2 gAdd (mVar 10) (mCallF M__law_pick 2 [] (mCons (mVar 1) (mCons (mVar 5) mNil)))) mNil))) mNil))) (own := [10]) (N := bigN) (lo := -1000) (hi := 1000) (en := [a0, some (.ref 0), a2, a3, some (tV xs), some (.ref q), a6, a7, a8, a9, a10]) (S := S) rfl (fun i S => rfl) P
    (by rw [List.length_map]; unfold bigN; omega) (by rw [List.length_map]; exact small5 hs) (fun i d S' hd Pi Gi => by
      rw [List.getElem?_map] at hd
      obtain ⟨x, hx, rfl⟩ := Option.map_eq_some_iff.mp hd
      have hi : i < xs.length := (List.getElem?_eq_some_iff.mp hx).1
      have hq' : S'[q]? = some (.lst nearL) := by rw [Gi.eq q (lt_of_at hq) hq0]; exact hq
      obtain ⟨d, S2, e, hd, P2, G2⟩ := pick_ok Pi (by omega) hq' hq0 (by decide) (by decide)
      obtain ⟨v, rfl⟩ := near_int hd
      have a1 : mCallF M__law_pick 2 [] (mCons (mVar 1) (mCons (mVar 5) mNil)) (setsE (wipeD [a0, some (.ref 0), a2, a3, some (tV xs), some (.ref q), a6, a7, a8, a9, a10] [10]) [(10, .int x)]) S' = _ := (mCallF_eq (ds := [.ref 0, .ref q]) (S1 := S') rfl (by rfl)).trans e
      have hv : mVar 10 (setsE (wipeD [a0, some (.ref 0), a2, a3, some (tV xs), some (.ref q), a6, a7, a8, a9, a10] [10]) [(10, .int x)]) S' = .ok (.int x) S' := rfl
      have g1 : ∀ (i j : Int) (S : Store), gMin2 (.int i) (.int j) S = some (.int (if j < i then j else i), S) := fun i j S => by unfold gMin2; rw [gI_int, if_pos (show yes2 i j = true from rfl)]
      have g2 : ∀ (i j : Int) (S : Store), gMax2 (.int i) (.int j) S = some (.int (if j > i then j else i), S) := fun i j S => by unfold gMax2; rw [gI_int, if_pos (show yes2 i j = true from rfl)]
      refine ⟨[(10, .int x)], if (if x + v < 1000 then x + v else 1000) > -1000 then (if x + v < 1000 then x + v else 1000) else -1000, S2, rfl, ?_, ?_, ?_, P2, G2⟩
      · rw [mCall_eq, mCons_eq, m1_eq, mC_eq, bind_ok, gNeg_int, ofOpt_some, bind_ok, mCons_eq, mCall_eq, mCons_eq, mC_eq, bind_ok, mCons_eq, m2_eq, hv, bind_ok, a1, bind_ok, gAdd_int, ofOpt_some, bind_ok, mNil_eq, bind_ok, bind_ok, bind_ok, g2N_eq, g1, ofOpt_some, bind_ok, mNil_eq, bind_ok, bind_ok, bind_ok, g2N_eq, g2]
        rfl
      · split <;> omega
      · split
        · split <;> omega
        · omega)
  refine ⟨ns, S', ?_, by rw [hl]; simp, hb, by simpa using P', G⟩
  unfold mY
  rw [mCall_eq, mCons_eq, e, bind_ok, mNil_eq, bind_ok, bind_ok, g1N_eq, tuple_at h0]
  rfl
end Q

namespace Q
open PySem PySem.Spec PyProof.Rows L2
theorem dist_comm : ∀ xs ys : List Int, dist xs ys = dist ys xs
  | [], [] => rfl
  | [], _ :: _ => rfl
  | _ :: _, [] => rfl
  | a :: xs, b :: ys => by
    have ih := dist_comm xs ys
    simp only [dist, List.zipWith_cons_cons, List.sum_cons] at ih ⊢
    omega
theorem dist_self : ∀ xs : List Int, dist xs xs = 0
  | [] => rfl
  | a :: xs => by
    have ih := dist_self xs
    simp only [dist, List.zipWith_cons_cons, List.sum_cons] at ih ⊢
    omega
theorem dist_le : ∀ xs ys : List Int, (∀ z ∈ xs, -1000 ≤ z ∧ z ≤ 1000) → (∀ z ∈ ys, -1000 ≤ z ∧ z ≤ 1000) → 0 ≤ dist xs ys ∧ dist xs ys ≤ 2000 * xs.length
  | [], ys, _, _ => by simp [dist]
  | a :: xs, [], _, _ => by simp [dist]; omega
  | a :: xs, b :: ys, h1, h2 => by
    have ih := dist_le xs ys (fun z hz => h1 z (List.mem_cons_of_mem _ hz)) (fun z hz => h2 z (List.mem_cons_of_mem _ hz))
    have a1 := h1 a List.mem_cons_self
    have b1 := h2 b List.mem_cons_self
    simp only [dist, List.zipWith_cons_cons, List.sum_cons, List.length_cons] at ih ⊢
    omega
def mR2 : MS := mSeq (mSet 8 (mCallF M_steps_towards 2 [] (mCons (mVar 4) (mCons (mVar 6) mNil)))) (mSeq (mIfS (mB (m2 gNe (mCall (g1N gRepr) (mCons (mVar 8) mNil)) (mCall (g1N gRepr) (mCons (mCallF M__law_due 2 [] (mCons (mVar 4) (mCons (mVar 6) mNil))) mNil)))) (mRet (mC (.bl false))) mSkip)
  (mExpr (mMeth "list" gApp (mVar 8) (mCons (mTup (mCons (mC (.int 9)) (mCons (mC (.int 9)) mNil))) mNil))))
theorem round2 {a0 a2 a3 a5 a7 a8 a9 a10 : Option D} {xs ys : List Int} {n : Nat} {S : Store} (hx : VOk xs) (hy : VOk ys) (hl : xs.length = ys.length) (P : Pen 0 2 n S) :
    ∃ k S', mR2 [a0, some (.ref 0), a2, a3, some (tV xs), a5, some (tV ys), a7, a8, a9, a10] S = .nx [a0, some (.ref 0), a2, a3, some (tV xs), a5, some (tV ys), a7, some (.ref k), a9, a10] S' ∧ Pen 0 2 n S' := by
  obtain ⟨k, T1, e1, h1, hk⟩ := towards_ok (S := S) hx hy hl
  obtain ⟨T2, e2⟩ := due_ok (S := S ++ T1) hl hx.h5
  obtain ⟨L, hL, sL, _⟩ := steps_pairs xs ys xs.length hx.h5
  have hlen := stepsF_len xs ys xs.length
  have h5 := hx.h5
  have p2 := P.lt
  have r1 : gRepr (.ref k) (S ++ T1) = _ := repr_pairs (by rw [← hL]; exact h1) sL
  have r2 : gRepr (.ref (S ++ T1).length) (S ++ T1 ++ .lst (stepsF xs ys xs.length) :: T2) = _ := repr_pairs (by rw [← hL]; exact at_mid) sL
  have h3 : (S ++ T1 ++ .lst (stepsF xs ys xs.length) :: T2)[k]? = some (.lst (stepsF xs ys xs.length)) := at_left h1
  let en : En := [a0, some (.ref 0), a2, a3, some (tV xs), a5, some (tV ys), a7, some (.ref k), a9, a10]
  have a1 : mCallF M_steps_towards 2 [] (mCons (mVar 4) (mCons (mVar 6) mNil)) [a0, some (.ref 0), a2, a3, some (tV xs), a5, some (tV ys), a7, a8, a9, a10] S = _ := (mCallF_eq (ds := [tV xs, tV ys]) (S1 := S) rfl (by rfl)).trans e1
  have a2' : mCallF M__law_due 2 [] (mCons (mVar 4) (mCons (mVar 6) mNil)) en (S ++ T1) = _ := (mCallF_eq (ds := [tV xs, tV ys]) (S1 := S ++ T1) rfl (by rfl)).trans e2
  have hs : ([a0, some (.ref 0), a2, a3, some (tV xs), a5, some (tV ys), a7, a8, a9, a10] : En).set 8 (some (.ref k)) = en := rfl
  have v8 : ∀ S, mVar 8 en S = .ok (.ref k) S := fun S => rfl
  have test : mB (m2 gNe (mCall (g1N gRepr) (mCons (mVar 8) mNil)) (mCall (g1N gRepr) (mCons (mCallF M__law_due 2 [] (mCons (mVar 4) (mCons (mVar 6) mNil))) mNil))) en (S ++ T1) = .ok false (S ++ T1 ++ .lst (stepsF xs ys xs.length) :: T2) := by
    rw [mB_eq, m2_eq, mCall_eq, mCons_eq, v8, bind_ok, mNil_eq, bind_ok, bind_ok, g1N_eq, r1, ofOpt_some, bind_ok, mCall_eq, mCons_eq, a2', bind_ok, mNil_eq, bind_ok, bind_ok, g1N_eq, r2, ofOpt_some, bind_ok, ne_str, ofOpt_some, bind_ok, boolD_bl, asB_some]
  have h2 : (2 : Nat) ≤ sizeLine := by decide
  have hm : mCons (mTup (mCons (mC (.int 9)) (mCons (mC (.int 9)) mNil))) mNil en (S ++ T1 ++ .lst (stepsF xs ys xs.length) :: T2) = .ok [.tup [.int 9, .int 9]] (S ++ T1 ++ .lst (stepsF xs ys xs.length) :: T2) := by
    simp [mTup, h2]
  refine ⟨k, (S ++ T1 ++ .lst (stepsF xs ys xs.length) :: T2).set k (.lst (stepsF xs ys xs.length ++ [.tup [.int 9, .int 9]])), ?_, ?_⟩
  · unfold mR2
    rw [mSeq_eq, mSet_eq, a1, stm_ok, seq_nx, hs, mSeq_eq, mIfS_f test, mSkip_eq, seq_nx, mExpr_eq, meth_app (v8 _) hm h3 (small5 (by omega)), stm_ok]
  · exact (P.app.app).to (by rw [List.getElem?_set_ne (by omega)]) (by rw [List.getElem?_set_ne (by omega)]) (Nat.le_refl _)
def mFin : MS := mIfS (mOr (mB (m2 gNe (mCall (g1N gRepr) (mCons (mCallF M_distance 2 [] (mCons (mVar 4) (mCons (mVar 6) mNil))) mNil)) (mCall (g1N gRepr) (mCons (mCallF M__law_far 2 [] (mCons (mVar 4) (mCons (mVar 6) mNil))) mNil)))) (mOr (mB (m2 gNe (mCallF M_distance 2 [] (mCons (mVar 6) (mCons (mVar 4) mNil))) (mCallF M_distance 2 [] (mCons (mVar 4) (mCons (mVar 6) mNil))))) (mB (m2 gNe (mCallF M_distance 2 [] (mCons (mVar 4) (mCons (mVar 4) mNil))) (mC (.int 0)))))) (mRet (mC (.bl false))) mSkip
theorem fin_ok {a0 a2 a3 a5 a7 a8 a9 a10 : Option D} {xs ys : List Int} {n : Nat} {S : Store} (hx : VOk xs) (hy : VOk ys) (hl : xs.length = ys.length) (P : Pen 0 2 n S) :
    ∃ S', mFin [a0, some (.ref 0), a2, a3, some (tV xs), a5, some (tV ys), a7, a8, a9, a10] S = .nx [a0, some (.ref 0), a2, a3, some (tV xs), a5, some (tV ys), a7, a8, a9, a10] S' ∧ Pen 0 2 n S' := by
  obtain ⟨T1, e1⟩ := distance_ok (S := S) hx hy hl
  obtain ⟨T2, e2⟩ := far_ok (S := S ++ T1) hl hx.h5
  obtain ⟨T3, e3⟩ := distance_ok (S := S ++ T1 ++ T2) hy hx hl.symm
  obtain ⟨T4, e4⟩ := distance_ok (S := S ++ T1 ++ T2 ++ T3) hx hy hl
  obtain ⟨T5, e5⟩ := distance_ok (S := S ++ T1 ++ T2 ++ T3 ++ T4) hx hx rfl
  have hb := dist_le xs ys hx.b hy.b
  have h5 := hx.h5
  have hd : (dist xs ys).natAbs < 2 ^ 100 := by
    have : (2 : Nat) ^ 100 > 20000 := by decide
    omega
  let en : En := [a0, some (.ref 0), a2, a3, some (tV xs), a5, some (tV ys), a7, a8, a9, a10]
  have a1 : mCallF M_distance 2 [] (mCons (mVar 4) (mCons (mVar 6) mNil)) en S = _ := (mCallF_eq (ds := [tV xs, tV ys]) (S1 := S) rfl (by rfl)).trans e1
  have a2' : mCallF M__law_far 2 [] (mCons (mVar 4) (mCons (mVar 6) mNil)) en (S ++ T1) = _ := (mCallF_eq (ds := [tV xs, tV ys]) (S1 := S ++ T1) rfl (by rfl)).trans e2
  have a3' : mCallF M_distance 2 [] (mCons (mVar 6) (mCons (mVar 4) mNil)) en (S ++ T1 ++ T2) = _ := (mCallF_eq (ds := [tV ys, tV xs]) (S1 := S ++ T1 ++ T2) rfl (by rfl)).trans e3
  have a4' : mCallF M_distance 2 [] (mCons (mVar 4) (mCons (mVar 6) mNil)) en (S ++ T1 ++ T2 ++ T3) = _ := (mCallF_eq (ds := [tV xs, tV ys]) (S1 := S ++ T1 ++ T2 ++ T3) rfl (by rfl)).trans e4
  have a5' : mCallF M_distance 2 [] (mCons (mVar 4) (mCons (mVar 4) mNil)) en (S ++ T1 ++ T2 ++ T3 ++ T4) = _ := (mCallF_eq (ds := [tV xs, tV xs]) (S1 := S ++ T1 ++ T2 ++ T3 ++ T4) rfl (by rfl)).trans e5
  refine ⟨S ++ T1 ++ T2 ++ T3 ++ T4 ++ T5, ?_, P.app.app.app.app.app⟩
  have t1 : mB (m2 gNe (mCall (g1N gRepr) (mCons (mCallF M_distance 2 [] (mCons (mVar 4) (mCons (mVar 6) mNil))) mNil)) (mCall (g1N gRepr) (mCons (mCallF M__law_far 2 [] (mCons (mVar 4) (mCons (mVar 6) mNil))) mNil))) en S = .ok false (S ++ T1 ++ T2) := by
    rw [mB_eq, m2_eq, mCall_eq, mCons_eq, a1, bind_ok, mNil_eq, bind_ok, bind_ok, g1N_eq, repr_int hd, ofOpt_some, bind_ok, mCall_eq, mCons_eq, a2', bind_ok, mNil_eq, bind_ok, bind_ok, g1N_eq, repr_int hd, ofOpt_some, bind_ok, ne_str, ofOpt_some, bind_ok, boolD_bl, asB_some]
  have t2 : mB (m2 gNe (mCallF M_distance 2 [] (mCons (mVar 6) (mCons (mVar 4) mNil))) (mCallF M_distance 2 [] (mCons (mVar 4) (mCons (mVar 6) mNil)))) en (S ++ T1 ++ T2) = .ok false (S ++ T1 ++ T2 ++ T3 ++ T4) := by
    rw [mB_eq, m2_eq, a3', bind_ok, a4', bind_ok, dist_comm ys xs, gNe_int, ofOpt_some, bind_ok, boolD_bl, asB_some]
  have t3 : mB (m2 gNe (mCallF M_distance 2 [] (mCons (mVar 4) (mCons (mVar 4) mNil))) (mC (.int 0))) en (S ++ T1 ++ T2 ++ T3 ++ T4) = .ok false (S ++ T1 ++ T2 ++ T3 ++ T4 ++ T5) := by
    rw [mB_eq, m2_eq, a5', bind_ok, mC_eq, bind_ok, dist_self, gNe_int, ofOpt_some, bind_ok, boolD_bl, asB_some]
  have t : mOr (mB (m2 gNe (mCall (g1N gRepr) (mCons (mCallF M_distance 2 [] (mCons (mVar 4) (mCons (mVar 6) mNil))) mNil)) (mCall (g1N gRepr) (mCons (mCallF M__law_far 2 [] (mCons (mVar 4) (mCons (mVar 6) mNil))) mNil)))) (mOr (mB (m2 gNe (mCallF M_distance 2 [] (mCons (mVar 6) (mCons (mVar 4) mNil))) (mCallF M_distance 2 [] (mCons (mVar 4) (mCons (mVar 6) mNil))))) (mB (m2 gNe (mCallF M_distance 2 [] (mCons (mVar 4) (mCons (mVar 4) mNil))) (mC (.int 0))))) en S = .ok false (S ++ T1 ++ T2 ++ T3 ++ T4 ++ T5) := by
    rw [mOr_f t1, mOr_f t2, t3]
  unfold mFin
  rw [mIfS_f t, mSkip_eq]
def mRound : MS := mSeq (mSet 3 (m2 gAdd (mC (.int 1)) (mCallF M__law_draw 2 [] (mCons (mVar 1) (mCons (mC (.int 5)) mNil))))) (mSeq (mSet 4 mX) (mSeq (mSet 5 mNear) (mSeq (mSet 6 mY) (mSeq (mFor (iRng1M (mCons (mC (.int 2)) mNil)) (pName 7) mR2 bigN) mFin))))
theorem round_ok {a0 a2 a3 a4 a5 a6 a7 a8 a9 a10 : Option D} {n : Nat} {S : Store} (P : Pen 0 2 n S) (hn : n < 2 ^ 50) :
    ∃ b3 b4 b5 b6 b7 b8 m S', mRound [a0, some (.ref 0), a2, a3, a4, a5, a6, a7, a8, a9, a10] S = .nx [a0, some (.ref 0), a2, b3, b4, b5, b6, b7, b8, a9, a10] S' ∧ m ≤ n + 11 ∧ Pen 0 2 m S' := by
  obtain ⟨r, S1, e1, r0, r1, P1, G1⟩ := drawM_ok (size := 5) P (by omega) (by decide) (by decide)
  have hr : 1 + r = ((1 + r.toNat : Nat) : Int) := by omega
  obtain ⟨xs, S2, e2, hx1, hx2, P2, G2⟩ := x_ok (a0 := a0) (a2 := a2) (a4 := a4) (a5 := a5) (a6 := a6) (a7 := a7) (a8 := a8) (a9 := a9) (a10 := a10) (size := 1 + r.toNat) (by omega) P1 (by omega)
  obtain ⟨ys, S3, e3, hy1, hy2, P3, G3⟩ := y_ok (a0 := a0) (a2 := a2) (a3 := some (.int (1 + r.toNat : Nat))) (a6 := a6) (a7 := a7) (a8 := a8) (a9 := a9) (a10 := a10) (xs := xs) (q := S2.length) (S := S2 ++ [.lst nearL]) (by omega) P2.app (by omega) at_mid (by have := P2.lt; omega)
  have vx : VOk xs := ⟨by omega, by omega, hx2⟩
  have vy : VOk ys := ⟨by omega, by omega, hy2⟩
  have a1 : mCallF M__law_draw 2 [] (mCons (mVar 1) (mCons (mC (.int 5)) mNil)) [a0, some (.ref 0), a2, a3, a4, a5, a6, a7, a8, a9, a10] S = _ := (mCallF_eq (ds := [.ref 0, .int 5]) (S1 := S) rfl (by rfl)).trans e1
  have loop := forL_rng (lo := 0) (n := 2) (N := bigN) (g := pName 7) (mb := mR2) (fun i en S' => (∃ x7 x8, en = [a0, some (.ref 0), a2, some (.int (1 + r.toNat : Nat)), some (tV xs), some (.ref S2.length), some (tV ys), x7, x8, a9, a10]) ∧ Pen 0 2 (n + 1 + (1 + r.toNat) + xs.length) S')
    (fun i en S' hi ⟨⟨x7, x8, he⟩, Pi⟩ => by
      subst he
      obtain ⟨k, S4, e, P4⟩ := round2 (a0 := a0) (a2 := a2) (a3 := some (.int (1 + r.toNat : Nat))) (a5 := some (.ref S2.length)) (a7 := some (.int (0 + (i : Nat)))) (a8 := x8) (a9 := a9) (a10 := a10) vx vy (by omega) Pi
      exact ⟨_, _, _, rfl, .inl e, ⟨_, _, rfl⟩, P4⟩) 2 0 [a0, some (.ref 0), a2, some (.int (1 + r.toNat : Nat)), some (tV xs), some (.ref S2.length), some (tV ys), a7, a8, a9, a10] S3 rfl (by unfold bigN; omega) ⟨⟨_, _, rfl⟩, P3⟩
  obtain ⟨en', S4, e4, ⟨x7, x8, he⟩, P4⟩ := loop
  obtain ⟨S5, e5, P5⟩ := fin_ok (a0 := a0) (a2 := a2) (a3 := some (.int (1 + r.toNat : Nat))) (a5 := some (.ref S2.length)) (a7 := x7) (a8 := x8) (a9 := a9) (a10 := a10) vx vy (by omega) P4
  have hm : iRng1M (mCons (mC (.int 2)) mNil) [a0, some (.ref 0), a2, some (.int (1 + r.toNat : Nat)), some (tV xs), some (.ref S2.length), some (tV ys), a7, a8, a9, a10] S3 = .ok (.rng 0 2) S3 := iRng1_ok rfl rfl (by omega)
  refine ⟨some (.int (1 + r.toNat : Nat)), some (tV xs), some (.ref S2.length), some (tV ys), x7, x8, _, S5, ?_, ?_, P5⟩
  · unfold mRound
    rw [mSeq_eq, mSet_eq, m2_eq, mC_eq, bind_ok, a1, bind_ok, gAdd_int, ofOpt_some, stm_ok, seq_nx, hr]
    simp only [List.set_cons_succ, List.set_cons_zero]
    rw [mSeq_eq, mSet_eq, e2, stm_ok, seq_nx]
    simp only [List.set_cons_succ, List.set_cons_zero]
    rw [mSeq_eq, mSet_eq, near_ok, stm_ok, seq_nx]
    simp only [List.set_cons_succ, List.set_cons_zero]
    rw [mSeq_eq, mSet_eq, e3, stm_ok, seq_nx]
    simp only [List.set_cons_succ, List.set_cons_zero]
    rw [mSeq_eq, mFor_ok hm, e4, seq_nx, he]
    exact e5
  · omega
end Q

namespace Q
open PySem PySem.Spec PyProof.Rows L2
theorem law_true (ns : List Int) (hl : ns.length ≤ 63) (hb : ∀ z ∈ ns, Builtin.Int.intBits z ≤ 1048576) : ∃ S', M_law [.kl (ns.map D.int)] [] = .ok (.bl true) S' := by
  obtain ⟨S0, e0, P0⟩ := pen_ok hl hb
  have a0 : mCallF M__law_pen 1 [] (mCons (mVar 0) mNil) (startE 11 [.kl (ns.map D.int)]) [] = _ := (mCallF_eq (ds := [.kl (ns.map D.int)]) (S1 := []) rfl (by rfl)).trans e0
  have hs : (startE 11 [.kl (ns.map D.int)]).set 1 (some (.ref 0)) = [some (.kl (ns.map D.int)), some (.ref 0), none, none, none, none, none, none, none, none, none] := rfl
  have loop := forL_rng (lo := 0) (n := 12) (N := bigN) (g := pName 2) (mb := mRound) (fun i en S' => (∃ x2 x3 x4 x5 x6 x7 x8 x9 x10, en = [some (.kl (ns.map D.int)), some (.ref 0), x2, x3, x4, x5, x6, x7, x8, x9, x10]) ∧ ∃ m, m ≤ 11 * i ∧ Pen 0 2 m S')
    (fun i en S' hi ⟨⟨x2, x3, x4, x5, x6, x7, x8, x9, x10, he⟩, m, hm, Pi⟩ => by
      subst he
      obtain ⟨b3, b4, b5, b6, b7, b8, m', S2, e, hm', P2⟩ := round_ok (a0 := some (.kl (ns.map D.int))) (a2 := some (.int (0 + (i : Nat)))) (a3 := x3) (a4 := x4) (a5 := x5) (a6 := x6) (a7 := x7) (a8 := x8) (a9 := x9) (a10 := x10) Pi (by omega)
      exact ⟨_, _, _, rfl, .inl e, ⟨_, _, _, _, _, _, _, _, _, rfl⟩, m', by omega, P2⟩) 12 0 [some (.kl (ns.map D.int)), some (.ref 0), none, none, none, none, none, none, none, none, none] S0 rfl (by unfold bigN; omega) ⟨⟨_, _, _, _, _, _, _, _, _, rfl⟩, 0, Nat.le_refl _, P0⟩
  obtain ⟨en', S', e, _⟩ := loop
  have hm : iRng1M (mCons (mC (.int 12)) mNil) [some (.kl (ns.map D.int)), some (.ref 0), none, none, none, none, none, none, none, none, none] S0 = .ok (.rng 0 12) S0 := iRng1_ok rfl rfl (by omega)
  have hb : b_law = mSeq (mSet 1 (mCallF M__law_pen 1 [] (mCons (mVar 0) mNil))) (mSeq (mFor (iRng1M (mCons (mC (.int 12)) mNil)) (pName 2) mRound bigN) (mRet (mC (.bl true)))) := rfl
  refine ⟨S', ?_⟩
  unfold M_law mDef
  rw [hb, mSeq_eq, mSet_eq, a0, stm_ok, seq_nx, hs, mSeq_eq, mFor_ok hm, e, seq_nx, mRet_eq, mC_eq, stm_ok, endM_rt]
end Q

namespace Q
open PySem PySem.Spec PyProof.Rows L2
theorem all_mk {P : Program} {w : World} {K : PySem.W.Frag} {h : Heap} {mg : Str → Option Value} {fa : Addr} (X : K.In h) (G : h.Ns mainGlobals mg) (hfa : mg "law" = some (.ref fa))
  {f__law_pen : Addr} {oc__law_pen kV__law_pen dc__law_pen pm__law_pen cd__law_pen ct__law_pen : Value} {od__law_pen an__law_pen : Option Addr} {sl__law_pen : Array (Option Value)}
  (a__law_pen : PySem.W.nsIn K mainGlobals "_law_pen" = some (some (.ref f__law_pen)))
  (l__law_pen : K.lookup f__law_pen = some ⟨oc__law_pen, od__law_pen, .func (PySem.W.fnOf "_law_pen" "_law_pen" (defArgs s__law_pen) (defBody s__law_pen) (defScope s__law_pen) .none kV__law_pen dc__law_pen pm__law_pen an__law_pen cd__law_pen ct__law_pen), sl__law_pen⟩)
  (c__law_pen : PySem.W.codeIn K cd__law_pen "_law_pen" = true) (k__law_pen : PySem.W.keepIn K (.ref f__law_pen) = true)
  {f__law_draw : Addr} {oc__law_draw kV__law_draw dc__law_draw pm__law_draw cd__law_draw ct__law_draw : Value} {od__law_draw an__law_draw : Option Addr} {sl__law_draw : Array (Option Value)}
  (a__law_draw : PySem.W.nsIn K mainGlobals "_law_draw" = some (some (.ref f__law_draw)))
  (l__law_draw : K.lookup f__law_draw = some ⟨oc__law_draw, od__law_draw, .func (PySem.W.fnOf "_law_draw" "_law_draw" (defArgs s__law_draw) (defBody s__law_draw) (defScope s__law_draw) .none kV__law_draw dc__law_draw pm__law_draw an__law_draw cd__law_draw ct__law_draw), sl__law_draw⟩)
  (c__law_draw : PySem.W.codeIn K cd__law_draw "_law_draw" = true) (k__law_draw : PySem.W.keepIn K (.ref f__law_draw) = true)
  {f__law_pick : Addr} {oc__law_pick kV__law_pick dc__law_pick pm__law_pick cd__law_pick ct__law_pick : Value} {od__law_pick an__law_pick : Option Addr} {sl__law_pick : Array (Option Value)}
  (a__law_pick : PySem.W.nsIn K mainGlobals "_law_pick" = some (some (.ref f__law_pick)))
  (l__law_pick : K.lookup f__law_pick = some ⟨oc__law_pick, od__law_pick, .func (PySem.W.fnOf "_law_pick" "_law_pick" (defArgs s__law_pick) (defBody s__law_pick) (defScope s__law_pick) .none kV__law_pick dc__law_pick pm__law_pick an__law_pick cd__law_pick ct__law_pick), sl__law_pick⟩)
  (c__law_pick : PySem.W.codeIn K cd__law_pick "_law_pick" = true) (k__law_pick : PySem.W.keepIn K (.ref f__law_pick) = true)
  {f_is_integer : Addr} {oc_is_integer kV_is_integer dc_is_integer pm_is_integer cd_is_integer ct_is_integer : Value} {od_is_integer an_is_integer : Option Addr} {sl_is_integer : Array (Option Value)}
  (a_is_integer : PySem.W.nsIn K mainGlobals "is_integer" = some (some (.ref f_is_integer)))
  (l_is_integer : K.lookup f_is_integer = some ⟨oc_is_integer, od_is_integer, .func (PySem.W.fnOf "is_integer" "is_integer" (defArgs s_is_integer) (defBody s_is_integer) (defScope s_is_integer) .none kV_is_integer dc_is_integer pm_is_integer an_is_integer cd_is_integer ct_is_integer), sl_is_integer⟩)
  (c_is_integer : PySem.W.codeIn K cd_is_integer "is_integer" = true) (k_is_integer : PySem.W.keepIn K (.ref f_is_integer) = true)
  {f_is_between : Addr} {oc_is_between kV_is_between dc_is_between pm_is_between cd_is_between ct_is_between : Value} {od_is_between an_is_between : Option Addr} {sl_is_between : Array (Option Value)}
  (a_is_between : PySem.W.nsIn K mainGlobals "is_between" = some (some (.ref f_is_between)))
  (l_is_between : K.lookup f_is_between = some ⟨oc_is_between, od_is_between, .func (PySem.W.fnOf "is_between" "is_between" (defArgs s_is_between) (defBody s_is_between) (defScope s_is_between) .none kV_is_between dc_is_between pm_is_between an_is_between cd_is_between ct_is_between), sl_is_between⟩)
  (c_is_between : PySem.W.codeIn K cd_is_between "is_between" = true) (k_is_between : PySem.W.keepIn K (.ref f_is_between) = true)
  {f_fits_vector : Addr} {oc_fits_vector kV_fits_vector dc_fits_vector pm_fits_vector cd_fits_vector ct_fits_vector : Value} {od_fits_vector an_fits_vector : Option Addr} {sl_fits_vector : Array (Option Value)}
  (a_fits_vector : PySem.W.nsIn K mainGlobals "fits_vector" = some (some (.ref f_fits_vector)))
  (l_fits_vector : K.lookup f_fits_vector = some ⟨oc_fits_vector, od_fits_vector, .func (PySem.W.fnOf "fits_vector" "fits_vector" (defArgs s_fits_vector) (defBody s_fits_vector) (defScope s_fits_vector) .none kV_fits_vector dc_fits_vector pm_fits_vector an_fits_vector cd_fits_vector ct_fits_vector), sl_fits_vector⟩)
  (c_fits_vector : PySem.W.codeIn K cd_fits_vector "fits_vector" = true) (k_fits_vector : PySem.W.keepIn K (.ref f_fits_vector) = true)
  {f_need_vector : Addr} {oc_need_vector kV_need_vector dc_need_vector pm_need_vector cd_need_vector ct_need_vector : Value} {od_need_vector an_need_vector : Option Addr} {sl_need_vector : Array (Option Value)} {dt_need_vector : Addr} {ot_need_vector : Obj} {dn_need_vector : Nat}
  (a_need_vector : PySem.W.nsIn K mainGlobals "need_vector" = some (some (.ref f_need_vector)))
  (l_need_vector : K.lookup f_need_vector = some ⟨oc_need_vector, od_need_vector, .func (PySem.W.fnOf "need_vector" "need_vector" (defArgs s_need_vector) (defBody s_need_vector) (defScope s_need_vector) (.ref dt_need_vector) kV_need_vector dc_need_vector pm_need_vector an_need_vector cd_need_vector ct_need_vector), sl_need_vector⟩)
  (c_need_vector : PySem.W.codeIn K cd_need_vector "need_vector" = true) (k_need_vector : PySem.W.keepIn K (.ref f_need_vector) = true)
  (t_need_vector : K.lookup dt_need_vector = some ot_need_vector) (e_need_vector : ot_need_vector.data = .seq #[.none] dn_need_vector)
  {f_steps_of : Addr} {oc_steps_of kV_steps_of dc_steps_of pm_steps_of cd_steps_of ct_steps_of : Value} {od_steps_of an_steps_of : Option Addr} {sl_steps_of : Array (Option Value)}
  (a_steps_of : PySem.W.nsIn K mainGlobals "steps_of" = some (some (.ref f_steps_of)))
  (l_steps_of : K.lookup f_steps_of = some ⟨oc_steps_of, od_steps_of, .func (PySem.W.fnOf "steps_of" "steps_of" (defArgs s_steps_of) (defBody s_steps_of) (defScope s_steps_of) .none kV_steps_of dc_steps_of pm_steps_of an_steps_of cd_steps_of ct_steps_of), sl_steps_of⟩)
  (c_steps_of : PySem.W.codeIn K cd_steps_of "steps_of" = true) (k_steps_of : PySem.W.keepIn K (.ref f_steps_of) = true)
  {f_steps_towards : Addr} {oc_steps_towards kV_steps_towards dc_steps_towards pm_steps_towards cd_steps_towards ct_steps_towards : Value} {od_steps_towards an_steps_towards : Option Addr} {sl_steps_towards : Array (Option Value)}
  (a_steps_towards : PySem.W.nsIn K mainGlobals "steps_towards" = some (some (.ref f_steps_towards)))
  (l_steps_towards : K.lookup f_steps_towards = some ⟨oc_steps_towards, od_steps_towards, .func (PySem.W.fnOf "steps_towards" "steps_towards" (defArgs s_steps_towards) (defBody s_steps_towards) (defScope s_steps_towards) .none kV_steps_towards dc_steps_towards pm_steps_towards an_steps_towards cd_steps_towards ct_steps_towards), sl_steps_towards⟩)
  (c_steps_towards : PySem.W.codeIn K cd_steps_towards "steps_towards" = true) (k_steps_towards : PySem.W.keepIn K (.ref f_steps_towards) = true)
  {f__law_far : Addr} {oc__law_far kV__law_far dc__law_far pm__law_far cd__law_far ct__law_far : Value} {od__law_far an__law_far : Option Addr} {sl__law_far : Array (Option Value)}
  (a__law_far : PySem.W.nsIn K mainGlobals "_law_far" = some (some (.ref f__law_far)))
  (l__law_far : K.lookup f__law_far = some ⟨oc__law_far, od__law_far, .func (PySem.W.fnOf "_law_far" "_law_far" (defArgs s__law_far) (defBody s__law_far) (defScope s__law_far) .none kV__law_far dc__law_far pm__law_far an__law_far cd__law_far ct__law_far), sl__law_far⟩)
  (c__law_far : PySem.W.codeIn K cd__law_far "_law_far" = true) (k__law_far : PySem.W.keepIn K (.ref f__law_far) = true)
  {f__law_due : Addr} {oc__law_due kV__law_due dc__law_due pm__law_due cd__law_due ct__law_due : Value} {od__law_due an__law_due : Option Addr} {sl__law_due : Array (Option Value)}
  (a__law_due : PySem.W.nsIn K mainGlobals "_law_due" = some (some (.ref f__law_due)))
  (l__law_due : K.lookup f__law_due = some ⟨oc__law_due, od__law_due, .func (PySem.W.fnOf "_law_due" "_law_due" (defArgs s__law_due) (defBody s__law_due) (defScope s__law_due) .none kV__law_due dc__law_due pm__law_due an__law_due cd__law_due ct__law_due), sl__law_due⟩)
  (c__law_due : PySem.W.codeIn K cd__law_due "_law_due" = true) (k__law_due : PySem.W.keepIn K (.ref f__law_due) = true)
  {f_distance_of : Addr} {oc_distance_of kV_distance_of dc_distance_of pm_distance_of cd_distance_of ct_distance_of : Value} {od_distance_of an_distance_of : Option Addr} {sl_distance_of : Array (Option Value)}
  (a_distance_of : PySem.W.nsIn K mainGlobals "distance_of" = some (some (.ref f_distance_of)))
  (l_distance_of : K.lookup f_distance_of = some ⟨oc_distance_of, od_distance_of, .func (PySem.W.fnOf "distance_of" "distance_of" (defArgs s_distance_of) (defBody s_distance_of) (defScope s_distance_of) .none kV_distance_of dc_distance_of pm_distance_of an_distance_of cd_distance_of ct_distance_of), sl_distance_of⟩)
  (c_distance_of : PySem.W.codeIn K cd_distance_of "distance_of" = true) (k_distance_of : PySem.W.keepIn K (.ref f_distance_of) = true)
  {f_distance : Addr} {oc_distance kV_distance dc_distance pm_distance cd_distance ct_distance : Value} {od_distance an_distance : Option Addr} {sl_distance : Array (Option Value)}
  (a_distance : PySem.W.nsIn K mainGlobals "distance" = some (some (.ref f_distance)))
  (l_distance : K.lookup f_distance = some ⟨oc_distance, od_distance, .func (PySem.W.fnOf "distance" "distance" (defArgs s_distance) (defBody s_distance) (defScope s_distance) .none kV_distance dc_distance pm_distance an_distance cd_distance ct_distance), sl_distance⟩)
  (c_distance : PySem.W.codeIn K cd_distance "distance" = true) (k_distance : PySem.W.keepIn K (.ref f_distance) = true)
  {f_law : Addr} {oc_law kV_law dc_law pm_law cd_law ct_law : Value} {od_law an_law : Option Addr} {sl_law : Array (Option Value)}
  (a_law : PySem.W.nsIn K mainGlobals "law" = some (some (.ref f_law)))
  (l_law : K.lookup f_law = some ⟨oc_law, od_law, .func (PySem.W.fnOf "law" "law" (defArgs s_law) (defBody s_law) (defScope s_law) .none kV_law dc_law pm_law an_law cd_law ct_law), sl_law⟩)
  (c_law : PySem.W.codeIn K cd_law "law" = true) (k_law : PySem.W.keepIn K (.ref f_law) = true)
  {t_MAX_DIMENSION : Tok} (z_MAX_DIMENSION : PySem.W.nsIn K mainGlobals "MAX_DIMENSION" = some (some (.int 5 t_MAX_DIMENSION)))
  {t_MAX_ENTRY : Tok} (z_MAX_ENTRY : PySem.W.nsIn K mainGlobals "MAX_ENTRY" = some (some (.int 1000 t_MAX_ENTRY)))
  (z_abs : PySem.W.nsIn K mainGlobals "abs" = some none)
  (z_all : PySem.W.nsIn K mainGlobals "all" = some none)
  (z_bool : PySem.W.nsIn K mainGlobals "bool" = some none)
  (z_enumerate : PySem.W.nsIn K mainGlobals "enumerate" = some none)
  (z_int : PySem.W.nsIn K mainGlobals "int" = some none)
  (z_isinstance : PySem.W.nsIn K mainGlobals "isinstance" = some none)
  (z_len : PySem.W.nsIn K mainGlobals "len" = some none)
  (z_list : PySem.W.nsIn K mainGlobals "list" = some none)
  (z_max : PySem.W.nsIn K mainGlobals "max" = some none)
  (z_min : PySem.W.nsIn K mainGlobals "min" = some none)
  (z_range : PySem.W.nsIn K mainGlobals "range" = some none)
  (z_repr : PySem.W.nsIn K mainGlobals "repr" = some none)
  (z_sum : PySem.W.nsIn K mainGlobals "sum" = some none)
  (z_tuple : PySem.W.nsIn K mainGlobals "tuple" = some none)
  (z_zip : PySem.W.nsIn K mainGlobals "zip" = some none)
  : ∃ (K : PySem.W.Frag) (fd : FuncData) (M : MF), K.In h ∧ (∀ (s : Shared) (u : Value), BindsTo s fd ⟨[u], []⟩ [("_law_script", u)]) ∧ (∀ ns : List Int, ns.length ≤ 63 → (∀ z ∈ ns, Builtin.Int.intBits z ≤ 1048576) → ∃ S', M [.kl (ns.map D.int)] [] = .ok (.bl true) S') ∧ ∀ base : Heap, K.In base → base.Ns mainGlobals mg → FnM P w K mg base 6 fa fd ["_law_script"] M := by
  have F__law_pen := funD_mk (x := "_law_pen") (qual := "_law_pen") (st := s__law_pen) l__law_pen c__law_pen k__law_pen dfl0
  have F__law_draw := funD_mk (x := "_law_draw") (qual := "_law_draw") (st := s__law_draw) l__law_draw c__law_draw k__law_draw dfl0
  have F__law_pick := funD_mk (x := "_law_pick") (qual := "_law_pick") (st := s__law_pick) l__law_pick c__law_pick k__law_pick dfl0
  have F_is_integer := funD_mk (x := "is_integer") (qual := "is_integer") (st := s_is_integer) l_is_integer c_is_integer k_is_integer dfl0
  have F_is_between := funD_mk (x := "is_between") (qual := "is_between") (st := s_is_between) l_is_between c_is_between k_is_between dfl0
  have F_fits_vector := funD_mk (x := "fits_vector") (qual := "fits_vector") (st := s_fits_vector) l_fits_vector c_fits_vector k_fits_vector dfl0
  have F_need_vector := funD_mk (x := "need_vector") (qual := "need_vector") (st := s_need_vector) l_need_vector c_need_vector k_need_vector (dfl1 (dvs := [.non]) (its := [.none]) (by simp) t_need_vector e_need_vector (.cons rfl .nil))
  have F_steps_of := funD_mk (x := "steps_of") (qual := "steps_of") (st := s_steps_of) l_steps_of c_steps_of k_steps_of dfl0
  have F_steps_towards := funD_mk (x := "steps_towards") (qual := "steps_towards") (st := s_steps_towards) l_steps_towards c_steps_towards k_steps_towards dfl0
  have F__law_far := funD_mk (x := "_law_far") (qual := "_law_far") (st := s__law_far) l__law_far c__law_far k__law_far dfl0
  have F__law_due := funD_mk (x := "_law_due") (qual := "_law_due") (st := s__law_due) l__law_due c__law_due k__law_due dfl0
  have F_distance_of := funD_mk (x := "distance_of") (qual := "distance_of") (st := s_distance_of) l_distance_of c_distance_of k_distance_of dfl0
  have F_distance := funD_mk (x := "distance") (qual := "distance") (st := s_distance) l_distance c_distance k_distance dfl0
  have F_law := funD_mk (x := "law") (qual := "law") (st := s_law) l_law c_law k_law dfl0
  have b__law_draw_2 := FunD.bindsN (ps := ["_law_pen_here", "_law_size"]) F__law_draw fun _ _ _ _ _ _ us hl => match us, hl with | [_, _], _ => rfl
  have b__law_due_2 := FunD.bindsN (ps := ["_law_x", "_law_y"]) F__law_due fun _ _ _ _ _ _ us hl => match us, hl with | [_, _], _ => rfl
  have b__law_far_2 := FunD.bindsN (ps := ["_law_x", "_law_y"]) F__law_far fun _ _ _ _ _ _ us hl => match us, hl with | [_, _], _ => rfl
  have b__law_pen_1 := FunD.bindsN (ps := ["_law_script"]) F__law_pen fun _ _ _ _ _ _ us hl => match us, hl with | [_], _ => rfl
  have b__law_pick_2 := FunD.bindsN (ps := ["_law_pen_here", "_law_options"]) F__law_pick fun _ _ _ _ _ _ us hl => match us, hl with | [_, _], _ => rfl
  have b_distance_2 := FunD.bindsN (ps := ["x", "y"]) F_distance fun _ _ _ _ _ _ us hl => match us, hl with | [_, _], _ => rfl
  have b_distance_of_2 := FunD.bindsN (ps := ["x", "y"]) F_distance_of fun _ _ _ _ _ _ us hl => match us, hl with | [_, _], _ => rfl
  have b_fits_vector_1 := FunD.bindsN (ps := ["value"]) F_fits_vector fun _ _ _ _ _ _ us hl => match us, hl with | [_], _ => rfl
  have b_is_between_3 := FunD.bindsN (ps := ["value", "low", "high"]) F_is_between fun _ _ _ _ _ _ us hl => match us, hl with | [_, _, _], _ => rfl
  have b_is_integer_1 := FunD.bindsN (ps := ["value"]) F_is_integer fun _ _ _ _ _ _ us hl => match us, hl with | [_], _ => rfl
  obtain ⟨d_need_vector_1, v_need_vector_1, b_need_vector_1⟩ := FunD.binds1 (ps := ["value", "dimension"]) F_need_vector 1 0 (by simp) rfl fun T kV doc pm an cdv ct us its hu hi => match us, its, hu, hi with | [_], [_], _, _ => ⟨_, rfl, rfl⟩
  obtain ⟨d_need_vector_2, v_need_vector_2, b_need_vector_2⟩ := FunD.binds1 (ps := ["value", "dimension"]) F_need_vector 2 1 (by simp) rfl fun T kV doc pm an cdv ct us its hu hi => match us, its, hu, hi with | [_, _], [_], _, _ => ⟨_, rfl, rfl⟩
  have b_steps_of_2 := FunD.bindsN (ps := ["x", "y"]) F_steps_of fun _ _ _ _ _ _ us hl => match us, hl with | [_, _], _ => rfl
  have b_steps_towards_2 := FunD.bindsN (ps := ["x", "y"]) F_steps_towards fun _ _ _ _ _ _ us hl => match us, hl with | [_, _], _ => rfl
  let T : Tx K mg := {
    f__law_pen := f__law_pen, fd__law_pen := _, F__law_pen := F__law_pen, g__law_pen := PySem.W.mg_of X G a__law_pen,
    f__law_draw := f__law_draw, fd__law_draw := _, F__law_draw := F__law_draw, g__law_draw := PySem.W.mg_of X G a__law_draw,
    f__law_pick := f__law_pick, fd__law_pick := _, F__law_pick := F__law_pick, g__law_pick := PySem.W.mg_of X G a__law_pick,
    f_is_integer := f_is_integer, fd_is_integer := _, F_is_integer := F_is_integer, g_is_integer := PySem.W.mg_of X G a_is_integer,
    f_is_between := f_is_between, fd_is_between := _, F_is_between := F_is_between, g_is_between := PySem.W.mg_of X G a_is_between,
    f_fits_vector := f_fits_vector, fd_fits_vector := _, F_fits_vector := F_fits_vector, g_fits_vector := PySem.W.mg_of X G a_fits_vector,
    f_need_vector := f_need_vector, fd_need_vector := _, F_need_vector := F_need_vector, g_need_vector := PySem.W.mg_of X G a_need_vector,
    f_steps_of := f_steps_of, fd_steps_of := _, F_steps_of := F_steps_of, g_steps_of := PySem.W.mg_of X G a_steps_of,
    f_steps_towards := f_steps_towards, fd_steps_towards := _, F_steps_towards := F_steps_towards, g_steps_towards := PySem.W.mg_of X G a_steps_towards,
    f__law_far := f__law_far, fd__law_far := _, F__law_far := F__law_far, g__law_far := PySem.W.mg_of X G a__law_far,
    f__law_due := f__law_due, fd__law_due := _, F__law_due := F__law_due, g__law_due := PySem.W.mg_of X G a__law_due,
    f_distance_of := f_distance_of, fd_distance_of := _, F_distance_of := F_distance_of, g_distance_of := PySem.W.mg_of X G a_distance_of,
    f_distance := f_distance, fd_distance := _, F_distance := F_distance, g_distance := PySem.W.mg_of X G a_distance,
    f_law := f_law, fd_law := _, F_law := F_law, g_law := PySem.W.mg_of X G a_law,
    d__law_draw_2 := [], v__law_draw_2 := .nil, b__law_draw_2 := b__law_draw_2,
    d__law_due_2 := [], v__law_due_2 := .nil, b__law_due_2 := b__law_due_2,
    d__law_far_2 := [], v__law_far_2 := .nil, b__law_far_2 := b__law_far_2,
    d__law_pen_1 := [], v__law_pen_1 := .nil, b__law_pen_1 := b__law_pen_1,
    d__law_pick_2 := [], v__law_pick_2 := .nil, b__law_pick_2 := b__law_pick_2,
    d_distance_2 := [], v_distance_2 := .nil, b_distance_2 := b_distance_2,
    d_distance_of_2 := [], v_distance_of_2 := .nil, b_distance_of_2 := b_distance_of_2,
    d_fits_vector_1 := [], v_fits_vector_1 := .nil, b_fits_vector_1 := b_fits_vector_1,
    d_is_between_3 := [], v_is_between_3 := .nil, b_is_between_3 := b_is_between_3,
    d_is_integer_1 := [], v_is_integer_1 := .nil, b_is_integer_1 := b_is_integer_1,
    d_need_vector_1 := d_need_vector_1, v_need_vector_1 := v_need_vector_1, b_need_vector_1 := b_need_vector_1,
    d_need_vector_2 := d_need_vector_2, v_need_vector_2 := v_need_vector_2, b_need_vector_2 := b_need_vector_2,
    d_steps_of_2 := [], v_steps_of_2 := .nil, b_steps_of_2 := b_steps_of_2,
    d_steps_towards_2 := [], v_steps_towards_2 := .nil, b_steps_towards_2 := b_steps_towards_2,
    b_law := fun s u => FunD.bindsA (ps := ["_law_script"]) F_law (fun _ _ _ _ _ _ us hl => match us, hl with | [_], _ => rfl) s [u] rfl,
    t_MAX_DIMENSION := t_MAX_DIMENSION, c_MAX_DIMENSION := PySem.W.mg_of X G z_MAX_DIMENSION,
    t_MAX_ENTRY := t_MAX_ENTRY, c_MAX_ENTRY := PySem.W.mg_of X G z_MAX_ENTRY,
    n_abs := PySem.W.mg_none_of X G z_abs,
    n_all := PySem.W.mg_none_of X G z_all,
    n_bool := PySem.W.mg_none_of X G z_bool,
    n_enumerate := PySem.W.mg_none_of X G z_enumerate,
    n_int := PySem.W.mg_none_of X G z_int,
    n_isinstance := PySem.W.mg_none_of X G z_isinstance,
    n_len := PySem.W.mg_none_of X G z_len,
    n_list := PySem.W.mg_none_of X G z_list,
    n_max := PySem.W.mg_none_of X G z_max,
    n_min := PySem.W.mg_none_of X G z_min,
    n_range := PySem.W.mg_none_of X G z_range,
    n_repr := PySem.W.mg_none_of X G z_repr,
    n_sum := PySem.W.mg_none_of X G z_sum,
    n_tuple := PySem.W.mg_none_of X G z_tuple,
    n_zip := PySem.W.mg_none_of X G z_zip }
  have e := hfa.symm.trans T.g_law
  cases e
  exact ⟨K, T.fd_law, M_law, X, fun s u => T.b_law s u, fun ns hl hb => law_true ns hl hb, fun base _ _ => fn_law T⟩
end Q

open PySem PySem.W PyProof.Rows
set_option maxHeartbeats 0 in
set_option maxRecDepth 100000 in
theorem PySem.Challenge.cw_jumpsets_k02_distances_and_steps_holds : PySem.Challenge.rw_jumpsets_k02_distances_and_steps.Holds := by
  w_on; o_law; k_head; (case hw => w_witness2)
  k_fill
  refine Q.walk_M (l := PySem.Challenge.rw_jumpsets_k02_distances_and_steps) (n := 63) (k := 6) (x := "_law_script") rfl (by decide) rfl ⟨rfl, by decide, by decide⟩ ?F
  case F =>
    intro w mg fa h Y G hmg
    have KX := PySem.W.kIn_of Y
    refine' Q.all_mk KX G hmg ?a__law_pen ?l__law_pen ?c__law_pen ?k__law_pen ?a__law_draw ?l__law_draw ?c__law_draw ?k__law_draw ?a__law_pick ?l__law_pick ?c__law_pick ?k__law_pick ?a_is_integer ?l_is_integer ?c_is_integer ?k_is_integer ?a_is_between ?l_is_between ?c_is_between ?k_is_between ?a_fits_vector ?l_fits_vector ?c_fits_vector ?k_fits_vector ?a_need_vector ?l_need_vector ?c_need_vector ?k_need_vector ?t_need_vector ?e_need_vector ?a_steps_of ?l_steps_of ?c_steps_of ?k_steps_of ?a_steps_towards ?l_steps_towards ?c_steps_towards ?k_steps_towards ?a__law_far ?l__law_far ?c__law_far ?k__law_far ?a__law_due ?l__law_due ?c__law_due ?k__law_due ?a_distance_of ?l_distance_of ?c_distance_of ?k_distance_of ?a_distance ?l_distance ?c_distance ?k_distance ?a_law ?l_law ?c_law ?k_law ?z_MAX_DIMENSION ?z_MAX_ENTRY ?z_abs ?z_all ?z_bool ?z_enumerate ?z_int ?z_isinstance ?z_len ?z_list ?z_max ?z_min ?z_range ?z_repr ?z_sum ?z_tuple ?z_zip
    (case a__law_pen => k_is); (case l__law_pen => k_is); (case c__law_pen => k_is); (case k__law_pen => k_is); (case a__law_draw => k_is); (case l__law_draw => k_is); (case c__law_draw => k_is); (case k__law_draw => k_is); (case a__law_pick => k_is); (case l__law_pick => k_is); (case c__law_pick => k_is); (case k__law_pick => k_is); (case a_is_integer => k_is); (case l_is_integer => k_is); (case c_is_integer => k_is); (case k_is_integer => k_is); (case a_is_between => k_is); (case l_is_between => k_is); (case c_is_between => k_is); (case k_is_between => k_is); (case a_fits_vector => k_is); (case l_fits_vector => k_is); (case c_fits_vector => k_is); (case k_fits_vector => k_is); (case a_need_vector => k_is); (case l_need_vector => k_is); (case c_need_vector => k_is); (case k_need_vector => k_is); (case t_need_vector => k_is); (case e_need_vector => rfl); (case a_steps_of => k_is); (case l_steps_of => k_is); (case c_steps_of => k_is); (case k_steps_of => k_is); (case a_steps_towards => k_is); (case l_steps_towards => k_is); (case c_steps_towards => k_is); (case k_steps_towards => k_is); (case a__law_far => k_is); (case l__law_far => k_is); (case c__law_far => k_is); (case k__law_far => k_is); (case a__law_due => k_is); (case l__law_due => k_is); (case c__law_due => k_is); (case k__law_due => k_is); (case a_distance_of => k_is); (case l_distance_of => k_is); (case c_distance_of => k_is); (case k_distance_of => k_is); (case a_distance => k_is); (case l_distance => k_is); (case c_distance => k_is); (case k_distance => k_is); (case a_law => k_is); (case l_law => k_is); (case c_law => k_is); (case k_law => k_is); (case z_MAX_DIMENSION => k_is); (case z_MAX_ENTRY => k_is); (case z_abs => k_is); (case z_all => k_is); (case z_bool => k_is); (case z_enumerate => k_is); (case z_int => k_is); (case z_isinstance => k_is); (case z_len => k_is); (case z_list => k_is); (case z_max => k_is); (case z_min => k_is); (case z_range => k_is); (case z_repr => k_is); (case z_sum => k_is); (case z_tuple => k_is); (case z_zip => k_is)
